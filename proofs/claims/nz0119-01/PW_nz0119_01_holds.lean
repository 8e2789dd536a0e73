import PyProof.Rows.All
import Open.Line
import PySem.Syntax
import PyProof.SetScanFacts
import Wide.All
import OpenK.KMake
import KE.KDictOf
import KE.KSortTup
import KE.KDictList
import PyProof.ConsumeWalk
import PyProof.AttrMissHeap
import OpenK.KCls
import PyProof.Rows.SeqMore2
import KE.KIsNot
import PyProof.CompFree
import PyProof.CompMap
import PyProof.DictCompW
import PyProof.ForAny
import PyProof.ListOps
import OpenK.KLine
import Open.Pieces
import PySem.Challenge.RW_nz0119_01
set_option Elab.async false
set_option maxRecDepth 100000
set_option tactic.hygienic false
set_option backward.match.sparseCases false
set_option genSizeOf false
set_option genInjectivity false
namespace Nz
open PySem PyProof.Rows PySem.W
abbrev ee:=PySem.Challenge.rw_nz0119_01.row
theorem am {α β} {P:α→β→Prop}:∀ a b,P a b→P a b:=fun _ _ e=>e
theorem ag {b:Prop} (h:b):True∧b:=⟨trivial,h⟩
noncomputable def ac:=@wpAny_bind
noncomputable def al:=@wpAny_pure
noncomputable def ax:=@wpAny_mono
noncomputable def b5:=@wpAny_holding
noncomputable def az:=@Option.some.inj
noncomputable def aV:=@List.mem_singleton
noncomputable def bU:=@Heap.get?_push_of_some
noncomputable def dG:=@Heap.get?_push_size
noncomputable def ba:=@List.length_map
noncomputable def cB:=@Bool.and_eq_true_iff
noncomputable def aH:=@Nat.le_trans
noncomputable def aY:=@List.all_eq_true
noncomputable def cj:=@List.getElem?_eq_getElem
noncomputable def aU:=@List.mem_cons
noncomputable def bH:=@of_decide_eq_true
noncomputable def bO:=@Bool.false_ne_true
noncomputable def bC:=@Bool.and_eq_true
noncomputable def bS:=@List.length_append
noncomputable def br:=@decide_eq_true
noncomputable def eC:=@List.eq_nil_of_length_eq_zero
noncomputable def dq:=@List.mem_append_right
noncomputable def eY:=@List.mem_append_left
noncomputable def cH:=@List.mem_append
noncomputable def bo:=@List.mem_map
noncomputable def cO:=@List.size_toArray
noncomputable def cr:=@List.append_nil
noncomputable def cK:=@List.nodup_nil
noncomputable def b7:=@List.mem_filter
noncomputable def hM:=@List.getElem?_eq_some_iff
noncomputable def cu:=@List.map_map
noncomputable def dO:=@List.getElem?_map
noncomputable def eG:=@beq_eq_false_iff_ne
noncomputable def cD:=@List.nodup_append
noncomputable def g9:=@List.getD_eq_getElem?_getD
noncomputable def eD:=@Nat.lt_of_le_of_lt
noncomputable def ei:=@List.length_range
noncomputable def dJ:=@List.map_append
noncomputable def cP:=@List.nodup_cons
noncomputable def gB:=@Nat.lt_of_lt_of_le
noncomputable def oE:=@Option.map_eq_some_iff
noncomputable def kE:=@Option.bind_eq_some_iff
noncomputable def jb:=@List.lookup_cons
noncomputable def au:=@if_pos
noncomputable def av:=@if_neg
noncomputable def aw:=@congrArg
noncomputable def bm:=@beq_iff_eq
noncomputable def c6:=@List.map_cons
noncomputable def eF:=@List.length_cons
noncomputable def iD:=@List.map_congr_left
noncomputable def eX:=@Array.length_toList
noncomputable def gL:=@List.length_filter_le
noncomputable def fZ:=@Heap.SameBut.update
noncomputable def dI:=@wpAny_standAt
noncomputable def eR:=@wpAny_call_entry
noncomputable def fH:=@List.contains_iff_mem
noncomputable def ik:=@Heap.get?_update_other
noncomputable def fM:=@List.filter_sublist
noncomputable def fY:=@wpAny_dictEntries
noncomputable def fR:=@Option.bind_some
noncomputable def ck:=@Nat.zero_le
noncomputable def gy:=@wpAny_newObj_type
noncomputable def er:=@Nat.le_of_eq
noncomputable def gR:=@Nat.succ_le_succ
noncomputable def ef:=@Heap.lt_size
end Nz
namespace Nz
open PySem PyProof.Rows PySem.W
section
set_option maxHeartbeats 0 in
theorem Ef:ee.wellSaid=true:=by
 delta OpenRow.wellSaid
 repeat' with_reducible refine look_both ?_ ?_
 all_goals try (delta OpenRow.partSaid;repeat' with_reducible refine look_both ?_ ?_)
 all_goals try (delta looksOpen;repeat' with_reducible refine look_both ?_ ?_)
 all_goals kernel_rfl
set_option maxHeartbeats 0 in
theorem Os:OpenLaw.wellSaid PySem.Challenge.rw_nz0119_01=true:=by
 delta OpenLaw.wellSaid
 repeat' with_reducible refine look_both ?_ ?_
 ·exact Ef
 all_goals kernel_rfl
end
end Nz
namespace Nz
section
theorem cps {P:Prop} (h:∀ G:Prop,(P→G)→G):P:=h P id
theorem nn {α:Type u} {P:Prop} {a:α} (h:none=some a):P:=nomatch h
theorem bt {P:Prop} (h:false=true):P:=nomatch h
theorem ifs {α:Type u} {P:Prop} {c:Prop} [Decidable c] {a t:α} (e:(if c then some a else none)=some t) (k:c→t=a→P):P:=by
 by_cases h:c
 ·rw [au h] at e;exact k h (az e).symm
 ·rw [av h] at e;exact nn e
theorem sr {α:Type u} {P:Prop} {c:Prop} [Decidable c] {a:Option α} {t:α} (e:(if c then a else none)=some t) (k:c→a=some t→P):P:=by
 by_cases h:c
 ·rw [au h] at e;exact k h e
 ·rw [av h] at e;exact nn e
theorem kz {α:Type u} {P:Prop} {c:Prop} [Decidable c] {a b:Option α} {t:α} (e:(if c then a else b)=some t) (k:c→a=some t→P) (f:b=some t→P):P:=by
 by_cases h:c
 ·rw [au h] at e;exact k h e
 ·rw [av h] at e;exact f e
theorem dw {α:Type u} {β:Type v} {P:Prop} {o:Option α} {f:α→Option β} {b:β} (e:o.bind f=some b) (k:∀ a,o=some a→f a=some b→P):P:=by
 induction o with
 | none=>exact nn e
 | some a=>exact k a rfl e
theorem eT {α:Type u} {β:Type v} {P:Prop} {o:Option α} {f:α→β} {b:β} (e:o.map f=some b) (k:∀ a,o=some a→b=f a→P):P:=by
 induction o with
 | none=>exact nn e
 | some a=>exact k a rfl (az e).symm
theorem eB {α β:Type} [BEq α] [LawfulBEq α] {a:α} {o:β} {l:List (α×β)} (h:l.lookup a=some o):(a,o)∈l:=by
 induction l with
 | nil=>exact nn h
 | cons p r ih=>
  rw [jb] at h
  induction q:a==p.1 with
  | true=>rw [q] at h;rw [bm.mp q,← az h];exact .head _
  | false=>rw [q] at h;exact .tail _ (ih h)
theorem Ov {α:Type u} {o:Option α} {p:α→Bool} (h:o.any p=true):∃ a,o=some a∧p a=true:=by
 induction o with
 | none=>exact bt h
 | some a=>exact ⟨a,rfl,h⟩
theorem Jp {α:Type u} {l:List α} (h:l.length≤1):l=[]∨∃ a,l=[a]:=by
 induction l with
 | nil=>exact .inl rfl
 | cons a r=>exact .inr ⟨a,aw (a::·) (eC (Nat.eq_zero_of_le_zero (Nat.le_of_succ_le_succ h)))⟩
end
end Nz
namespace Nz
open PySem
section
set_option genInjectivity true
noncomputable abbrev Nm:=Nat
noncomputable def SZ:Nat:=1048576
inductive bK where
 | I (i:Int) | S (s:Nat) | T (ks:List Int)
 deriving DecidableEq
inductive T where
 | none | bool (b:Bool) | int (i:Int) | str (s:Nat)
 | tup (xs:List T) | list (xs:List T) | dict (kvs:List (bK×T)) | set (xs:List Int)
 | dvals (kvs:List (bK×T)) | rng (n:Nat) | inst (c:Nat) (fs:List (Nat×T))
noncomputable def bZ:T→Bool | .none=>true | _=>false
noncomputable def D2:T→Option Bool | .bool b=>some b | _=>Option.none
noncomputable def f6:T→Option Int | .int i=>some i | _=>Option.none
noncomputable def Kr:T→Option Nat | .str i=>some i | _=>Option.none
noncomputable def EK:T→Option (List T) | .tup xs=>some xs | _=>Option.none
noncomputable def jP:T→Option (List T) | .list xs=>some xs | _=>Option.none
noncomputable def kU:T→Option (List (bK×T)) | .dict kvs=>some kvs | _=>Option.none
theorem kq {t:T} {b:List (bK×T)} (e:kU t=some b):t=.dict b:=by
 cases t with
 | dict c=>exact aw T.dict (az e)
 | _=>exact nn e
noncomputable def xf:T→Option (Nat×List (Nat×T)) | .inst c fs=>some (c,fs) | _=>Option.none
theorem qa {t:T} {p:Nat×List (Nat×T)} (e:xf t=some p):t=.inst p.1 p.2:=by
 cases t with
 | inst c fs=>exact aw (fun p:Nat×List (Nat×T)=>T.inst p.1 p.2) (az e)
 | _=>exact nn e
noncomputable def one {α:Type}:List α→Option α
 | []=>Option.none
 | a::r=>if r.isEmpty then some a else Option.none
noncomputable def two {α:Type}:List α→Option (α×α)
 | []=>Option.none
 | a::r=>(one r).map fun b=>(a,b)
theorem ux {t:T} {b:Bool} (e:D2 t=some b):t=.bool b:=by
 cases t with
 | bool c=>exact aw T.bool (az e)
 | _=>exact nn e
theorem cC {t:T} {b:Int} (e:f6 t=some b):t=.int b:=by
 cases t with
 | int c=>exact aw T.int (az e)
 | _=>exact nn e
theorem yF {t:T} {b:Nat} (e:Kr t=some b):t=.str b:=by
 cases t with
 | str c=>exact aw T.str (az e)
 | _=>exact nn e
theorem rj {t:T} {b:List T} (e:EK t=some b):t=.tup b:=by
 cases t with
 | tup c=>exact aw T.tup (az e)
 | _=>exact nn e
theorem et {t:T} {b:List T} (e:jP t=some b):t=.list b:=by
 cases t with
 | list c=>exact aw T.list (az e)
 | _=>exact nn e
theorem nB {t:T} (e:bZ t=true):t=.none:=by
 cases t with
 | none=>rfl
 | _=>exact bt e
theorem zF {α:Type} {l:List α} {a:α} (e:one l=some a):l=[a]:=by
 induction l with
 | nil=>exact nn e
 | cons b r=>exact ifs e fun h te=>by rw [te,List.isEmpty_iff.mp h]
theorem xr {α:Type} {l:List α} {p:α×α} (e:two l=some p):l=[p.1,p.2]:=by
 induction l with
 | nil=>exact nn e
 | cons b r=>exact eT e fun a h te=>by rw [te,zF h]
noncomputable def bK.kind:bK→Nat | .I _=>0 | .S _=>1 | .T _=>2
noncomputable def cZ:List T→Option (List Int)
 | []=>some []
 | x::r=>(f6 x).bind fun i=>(cZ r).map (i::·)
noncomputable def fO:T→Option bK
 | .int i=>some (.I i)
 | .str s=>some (.S s)
 | .tup xs=>(cZ xs).map .T
 | _=>Option.none
noncomputable def cf:bK→T
 | .I i=>.int i
 | .S s=>.str s
 | .T ks=>.tup (ks.map .int)
noncomputable def tZ (k:bK) (kvs:List (bK×T)):Bool:=kvs.all fun p=>p.1.kind==k.kind
noncomputable def gw (kvs:List (bK×T)) (k:bK):Option T:=(kvs.find? fun p=>decide (p.1=k)).map (·.2)
noncomputable def gZ (kvs:List (bK×T)) (k:bK) (v:T):List (bK×T):=
 if kvs.any (fun p=>decide (p.1=k)) then kvs.map (fun p=>if p.1=k then (p.1,v) else p) else kvs++[(k,v)]
noncomputable def k0 (kvs:List (bK×T)) (k:bK) (v:T):Option (List (bK×T)):=
 if tZ k kvs&&decide (kvs.length < SZ) then some (gZ kvs k v) else Option.none
noncomputable def ij (a:Int):List Int→List Int
 | []=>[a]
 | b::r=>if a < b then a::b::r else if a=b then b::r else b::ij a r
noncomputable def canon:List Int→List Int
 | []=>[]
 | a::r=>ij a (canon r)
noncomputable def items:T→Option (List T)
 | .list xs=>some xs
 | .tup xs=>some xs
 | .dict kvs=>some (kvs.map fun p=>cf p.1)
 | .dvals kvs=>some (kvs.map (·.2))
 | .rng n=>some ((List.range n).map fun i=>.int (Int.ofNat i))
 | _=>Option.none
noncomputable def qO:T→Option Bool
 | .bool b=>some b
 | .int i=>some (i != 0)
 | .list xs=>some (!xs.isEmpty)
 | .tup xs=>some (!xs.isEmpty)
 | .dict kvs=>some (!kvs.isEmpty)
 | _=>Option.none
mutual
noncomputable def z0:T→T→Option Bool
 | .none=>fun t=>if bZ t then some true else Option.none
 | .bool a=>fun t=>(D2 t).map fun b=>a==b
 | .int a=>fun t=>(f6 t).map fun b=>decide (a=b)
 | .str a=>fun t=>(Kr t).map fun b=>decide (a=b)
 | .tup xs=>fun t=>(EK t).bind fun ys=>wh xs ys
 | .list xs=>fun t=>(jP t).bind fun ys=>if xs.length=ys.length then wh xs ys else some false
 | _=>fun _=>Option.none
noncomputable def wh:List T→List T→Option Bool
 | []=>fun ys=>some ys.isEmpty
 | x::xs=>fun l=>match l with
  | []=>some false
  | y::ys=>(z0 x y).bind fun a=>(wh xs ys).map fun b=>a&&b
end
noncomputable def Oy (a b:List (bK×T)):Option Bool:=
 if a.length=b.length∧(a.all fun p=>tZ p.1 b&&match gw b p.1 with | some v=>z0 p.2 v==some true | Option.none=>false)=true then some true else Option.none
noncomputable def Lw (a b:T):Option Bool:=match kU a with
 | some p=>(kU b).bind (Oy p)
 | Option.none=>z0 a b
mutual
noncomputable def depth:T→Nat
 | .tup xs=>ql xs+1
 | .list xs=>ql xs+1
 | .dict kvs=>hX kvs+1
 | _=>0
noncomputable def ql:List T→Nat
 | []=>0
 | x::xs=>max (depth x) (ql xs)
noncomputable def hX:List (bK×T)→Nat
 | []=>0
 | p::xs=>max (match p with | (_,t)=>depth t) (hX xs)
end
mutual
noncomputable def Ql:T→T→Option Bool
 | .int a,.int b=>some (decide (a < b))
 | .tup xs,.tup ys=>ND xs ys
 | _,_=>Option.none
noncomputable def ND:List T→List T→Option Bool
 | [],[]=>some false
 | [],_::_=>some true
 | _::_,[]=>some false
 | x::xs,y::ys=>match z0 x y with
  | some true=>ND xs ys
  | some false=>Ql x y
  | Option.none=>Option.none
end
inductive Slot where
 | unb | val (t:T) | own (fx:Bool) (t:T)
noncomputable abbrev Env:=List (Nm×Slot)
noncomputable def Env.get:Env→Nm→Slot
 | [],_=>.unb
 | (y,s)::r,x=>if y=x then s else Env.get r x
noncomputable def Env.set:Env→Nm→Slot→Env
 | [],_,_=>[]
 | (y,s)::r,x,v=>if y=x then (y,v)::r else (y,s)::Env.set r x v
inductive Fl where | next | cont | brk | ret (t:T)
noncomputable abbrev aC:=Nat→List T→Option T→(T→Option T→Prop)→Prop
noncomputable abbrev SE:=aC→Env→(T→Env→Prop)→Prop
noncomputable abbrev sw:=aC→Env→(List T→Env→Prop)→Prop
noncomputable abbrev SB:=aC→Env→(Bool→Env→Prop)→Prop
noncomputable abbrev SS:=aC→Env→(Fl→Env→Prop)→Prop
noncomputable def fW {α:Type} (o:Option α) (Q:α→Prop):Prop:=match o with | some a=>Q a | Option.none=>False
theorem ab {α:Type} {o:Option α} {a:α} {Q:α→Prop} (e:o=some a) (h:Q a):fW o Q:=by rw [e];exact h
noncomputable def bq (b:Bool) (p q:Prop):Prop:=match b with | true=>p | false=>q
noncomputable def b6:SE:=fun _ _ _=>False
noncomputable def ah (t:T):SE:=fun _ ρ Q=>Q t ρ
noncomputable def qi (s:Slot) (Q:T→Prop):Prop:=match s with | .val t=>Q t | .own _ t=>Q t | .unb=>False
noncomputable def ae (x:Nm):SE:=fun _ ρ Q=>match ρ.get x with
 | .val t=>Q t ρ
 | .own false t=>Q t (ρ.set x (.val t))
 | _=>False
inductive jf where | e (s:SE) | v (x:Nm)
noncomputable def jf.run (o:jf):SE:=match o with
 | .e s=>s
 | .v x=>fun _ ρ Q=>qi (ρ.get x) fun t=>Q t ρ
noncomputable def ak:sw:=fun _ ρ Q=>Q [] ρ
noncomputable def aa (s:SE) (r:sw):sw:=fun C ρ Q=>s C ρ fun t ρ=>r C ρ fun ts ρ=>Q (t::ts) ρ
noncomputable def HW (xs ys:List Int):Bool:=decide (xs.length+ys.length≤15)&&xs.all (fun k=>decide (0≤k∧k < 32))&&ys.all (fun k=>decide (0≤k∧k < 32))
noncomputable def small (a:Int):Bool:=decide (a.natAbs < 18446744073709551616)
noncomputable def NV (a b:Int):Operator→Option T
 | .Add=>some (.int (a+b))
 | .Sub=>some (.int (a - b))
 | .Mult=>if small a||small b then some (.int (a*b)) else Option.none
 | .FloorDiv=>if 0 < b∧b < 1073741824 then some (.int (a / b)) else Option.none
 | .Mod=>if 0 < b then some (.int (a % b)) else Option.none
 | .Pow=>if small a&&decide (0≤b)&&decide (b≤18) then some (.int (a ^ b.toNat)) else Option.none
 | .BitAnd=>if a=0∧0≤b then some (.int 0) else Option.none
 | _=>Option.none
noncomputable def IU:Operator→Bool | .Add=>true | _=>false
noncomputable def Pt:Operator→Bool | .BitOr=>true | _=>false
noncomputable def Op:T→Option (List Int) | .set xs=>some xs | _=>Option.none
theorem Kd {t:T} {b:List Int} (e:Op t=some b):t=.set b:=by
 cases t with
 | set c=>exact aw T.set (az e)
 | _=>exact nn e
noncomputable def tw (op:Operator):T→T→Option T
 | .int a=>fun y=>(f6 y).bind fun b=>NV a b op
 | .tup xs=>fun y=>(EK y).bind fun ys=>if IU op then (if xs.length+ys.length≤SZ then some (.tup (xs++ys)) else Option.none) else Option.none
 | .list xs=>fun y=>(jP y).bind fun ys=>if IU op then (if xs.length+ys.length≤SZ then some (.list (xs++ys)) else Option.none) else Option.none
 | .set xs=>fun y=>(Op y).bind fun ys=>if Pt op then (if HW xs ys then some (.set (canon (xs++ys))) else Option.none) else Option.none
 | _=>fun _=>Option.none
noncomputable def cy (op:Operator) (l r:SE):SE:=fun C ρ Q=>l C ρ fun a ρ=>r C ρ fun b ρ=>fW (tw op a b) fun t=>Q t ρ
noncomputable def NB:T→Option T | .int a=>some (.int (-a)) | _=>Option.none
noncomputable def sR (s:SE):SE:=fun C ρ Q=>s C ρ fun a ρ=>fW (NB a) fun t=>Q t ρ
noncomputable def M5:T→Bool | .str _=>true | _=>false
noncomputable def Pq (s:Nat):T→Bool | .str u=>s==u | _=>false
noncomputable def OW (a b:T):Option Bool:=match b with
 | .dict kvs=>(fO a).bind fun k=>if tZ k kvs then some (gw kvs k).isSome else Option.none
 | .set xs=>(f6 a).map fun i=>xs.contains i
 | .list xs=>(f6 a).bind fun i=>(cZ xs).map fun l=>l.contains i
 | .tup xs=>(Kr a).bind fun s=>if xs.all M5 then some (xs.any (Pq s)) else Option.none
 | _=>Option.none
noncomputable def DU (f:Int→Int→Bool) (a b:T):Option Bool:=(f6 a).bind fun p=>(f6 b).map fun q=>f p q
noncomputable def ky (op:CmpOp) (a b:T):Option Bool:=match op with
 | .Eq=>if depth a≤60 then Lw a b else Option.none
 | .NotEq=>if depth a≤60 then (Lw a b).map (!·) else Option.none
 | .Lt=>DU (fun a b=>decide (a < b)) a b
 | .LtE=>DU (fun a b=>decide (a≤b)) a b
 | .Gt=>DU (fun a b=>decide (b < a)) a b
 | .GtE=>DU (fun a b=>decide (b≤a)) a b
 | .Is=>if bZ b then some (bZ a) else Option.none
 | .IsNot=>if bZ b then some (!bZ a) else Option.none
 | .In=>OW a b
 | .NotIn=>(OW a b).map (!·)
noncomputable def aD (op:CmpOp) (l:SE) (r:jf):SB:=fun C ρ Q=>l C ρ fun a ρ=>r.run C ρ fun b ρ=>fW (ky op a b) fun t=>Q t ρ
noncomputable def m5 (op op':CmpOp) (l m r:SE):SB:=fun C ρ Q=>l C ρ fun a ρ=>m C ρ fun b ρ=>fW (ky op a b) fun t=>bq t (r C ρ fun c ρ=>fW (ky op' b c) fun u=>Q u ρ) (Q false ρ)
noncomputable def gF (op:CmpOp) (l:SE) (r:jf):SE:=fun C ρ Q=>aD op l r C ρ fun b ρ=>Q (.bool b) ρ
noncomputable def cQ (o:jf):SB:=fun C ρ Q=>o.run C ρ fun t ρ=>fW (qO t) fun b=>Q b ρ
noncomputable def qD (s:SB):SB:=fun C ρ Q=>s C ρ fun b ρ=>Q (!b) ρ
noncomputable def aI:SB:=fun _ ρ Q=>Q true ρ
noncomputable def nP:SB:=fun _ ρ Q=>Q false ρ
noncomputable def zI:SB:=fun _ _ _=>False
noncomputable def bB (s r:SB):SB:=fun C ρ Q=>s C ρ fun b ρ=>bq b (r C ρ Q) (Q false ρ)
noncomputable def uy (s r:SB):SB:=fun C ρ Q=>s C ρ fun b ρ=>bq b (Q true ρ) (r C ρ Q)
noncomputable def Jl (c a b:SB):SB:=fun C ρ Q=>c C ρ fun t ρ=>bq t (a C ρ Q) (b C ρ Q)
noncomputable def iW (c:SB) (a b:SE):SE:=fun C ρ Q=>c C ρ fun t ρ=>bq t (a C ρ Q) (b C ρ Q)
noncomputable def K7 (s r:SE):SE:=fun C ρ Q=>s C ρ fun t ρ=>fW (qO t) fun b=>bq b (r C ρ Q) (Q t ρ)
noncomputable def OY (s r:SE):SE:=fun C ρ Q=>s C ρ fun t ρ=>fW (qO t) fun b=>bq b (Q t ρ) (r C ρ Q)
noncomputable def aO (ss:sw):SE:=fun C ρ Q=>ss C ρ fun ts ρ=>Q (.tup ts) ρ
noncomputable def bM (ss:sw):SE:=fun C ρ Q=>ss C ρ fun ts ρ=>Q (.list ts) ρ
noncomputable def lF:List (T×T)→List (bK×T)→Option (List (bK×T))
 | [],d=>some d
 | (k,v)::r,d=>(fO k).bind fun k=>(k0 d k v).bind fun d=>lF r d
noncomputable def dP:SE:=fun _ ρ Q=>Q (.dict []) ρ
noncomputable def rH (k v:SE):SE:=fun C ρ Q=>k C ρ fun a ρ=>v C ρ fun b ρ=>fW (fO a) fun k=>Q (.dict [(k,b)]) ρ
inductive Bi where | len | sorted | tuple | list | dict | set | abs | int | range | all
noncomputable def Ow:T→Option Nat
 | .list xs=>some xs.length
 | .tup xs=>some xs.length
 | .dict kvs=>some kvs.length
 | .set xs=>some xs.length
 | _=>Option.none
noncomputable def vY (t:T):Option (T×T):=(EK t).bind two
theorem q5 {t:T} {p:T×T} (e:vY t=some p):t=.tup [p.1,p.2]:=dw e fun a h1 h2=>by rw [rj h1,xr h2]
noncomputable def fB:List T→Option (List (T×T))
 | []=>some []
 | x::r=>(vY x).bind fun p=>(fB r).map (p::·)
noncomputable def u5:List T→Option (List Bool)
 | []=>some []
 | x::r=>(D2 x).bind fun b=>(u5 r).map (b::·)
noncomputable def gV (sh:Bool) (p:Int×Int):T:=match sh with | false=>.tup [.int p.1,.int p.2] | true=>.tup [.tup [.int p.1],.int p.2]
noncomputable def Qe (sh:Bool) (t:T):Option Int:=match sh with
 | false=>f6 t
 | true=>((EK t).bind one).bind f6
noncomputable def pk (sh:Bool) (t:T):Option (Int×Int):=(vY t).bind fun p=>(Qe sh p.1).bind fun a=>(f6 p.2).map fun b=>(a,b)
noncomputable def Od (sh:Bool):List T→Option (List (Int×Int))
 | []=>some []
 | x::r=>(pk sh x).bind fun p=>(Od sh r).map (p::·)
noncomputable def c7 (p q:Int×Int):Bool:=decide (p.1 < q.1)||(decide (p.1=q.1)&&decide (p.2 < q.2))
noncomputable def xb (p:Int×Int):List (Int×Int)→List (Int×Int)
 | []=>[p]
 | q::r=>if c7 p q then p::q::r else q::xb p r
noncomputable def bh:List (Int×Int)→List (Int×Int)
 | []=>[]
 | p::r=>xb p (bh r)
noncomputable def kL (sh:Bool) (xs:List T):Option (List T):=(Od sh xs).bind fun ps=>if ps.length≤4∧ps.Nodup then some ((bh ps).map (gV sh)) else Option.none
noncomputable def iv (xs:List T):Option (List T):=
 if xs.length≤1 then some xs else match cZ xs with
  | some l=>if l.length < 60∧l.Nodup then some ((canon l).map .int) else Option.none
  | Option.none=>match kL false xs with
   | some r=>some r
   | Option.none=>kL true xs
noncomputable def Pb:bK→Bool | .I _=>true | _=>false
noncomputable def Il:bK→Option (List Int) | .T ks=>some ks | _=>Option.none
theorem Ke {k:bK} {ks:List Int} (e:Il k=some ks):k=.T ks:=by
 induction k with
 | T c=>exact aw bK.T (az e)
 | _=>exact nn e
noncomputable def wI (k:bK):Bool:=(((Il k).bind two).map fun p=>decide (0≤p.1∧p.1 < 12∧0≤p.2∧p.2 < 12)).getD false
noncomputable def jv (kvs:List (bK×T)):Bool:=(decide (kvs.length≤8)&&kvs.all fun p=>Pb p.1)||kvs.all fun p=>wI p.1
noncomputable def ML:T→Option (List T) | .list xs=>some xs | .tup xs=>some xs | _=>Option.none
noncomputable def bi (b:Bi) (t:T):Option T:=match b with
 | .len=>(Ow t).map fun n:Nat=>T.int (n:Int)
 | .sorted=>match t with
  | .set xs=>if xs.length < 60 then some (.list (xs.map .int)) else Option.none
  | .dict kvs=>(iv (kvs.map fun p=>cf p.1)).map .list
  | .list xs=>(iv xs).map .list
  | _=>Option.none
 | .tuple=>(ML t).map .tup
 | .list=>(ML t).map .list
 | .dict=>match t with
  | .list xs=>((fB xs).bind fun ps=>lF ps []).map .dict
  | .dict kvs=>if jv kvs then some (.dict kvs) else Option.none
  | _=>Option.none
 | .set=>(jP t).bind fun xs=>if xs.length≤1000 then (cZ xs).map fun l=>.set (canon l) else Option.none
 | .abs=>(f6 t).map fun a=>.int a.natAbs
 | .int=>(f6 t).map .int
 | .range=>(f6 t).bind fun a=>if 0≤a∧a≤SZ then some (.rng a.toNat) else Option.none
 | .all=>(jP t).bind fun xs=>(u5 xs).map fun l=>.bool (l.all id)
noncomputable def bW (b:Bi) (o:jf):SE:=fun C ρ Q=>o.run C ρ fun t ρ=>fW (bi b t) fun t=>Q t ρ
noncomputable def pX (o:SE) (c:Nat):SE:=fun C ρ Q=>o C ρ fun t ρ=>fW (xf t) fun p=>p.1 < 14∧c=14∧Q (.bool false) ρ
noncomputable def idxOf (i:Int) (n:Nat):Option Nat:=if 0≤i then (if i.toNat < n then some i.toNat else Option.none) else if i=-1∧0 < n then some (n - 1) else Option.none
noncomputable def getItem (o i:T):Option T:=match o with
 | .list xs=>(f6 i).bind fun k=>(idxOf k xs.length).bind fun j=>xs[j]?
 | .tup xs=>(f6 i).bind fun k=>(idxOf k xs.length).bind fun j=>xs[j]?
 | .dict kvs=>(fO i).bind fun k=>if tZ k kvs then gw kvs k else Option.none
 | _=>Option.none
noncomputable def isB:Slot→Prop | .unb=>False | _=>True
noncomputable def aZ (o:jf) (i:SE):SE:=match o with
 | .e s=>fun C ρ Q=>s C ρ fun to ρ=>i C ρ fun ti ρ=>fW (getItem to ti) fun t=>Q t ρ
 | .v x=>fun C ρ Q=>isB (ρ.get x)∧i C ρ fun ti ρ=>qi (ρ.get x) fun to=>fW (getItem to ti) fun t=>Q t ρ
noncomputable def Oa (xs:List T) (lo hi:Option Int):Option (List T):=match lo,hi with
 | Option.none,some h=>if 0≤h then some (xs.take h.toNat) else Option.none
 | some l,some h=>if 0≤l∧h=-1 then some ((xs.take (xs.length - 1)).drop l.toNat) else Option.none
 | _,_=>Option.none
noncomputable def cutT (o:T) (lo hi:Option Int):Option T:=match o with
 | .list xs=>(match lo with | Option.none=>(Oa xs lo hi).map .list | some _=>Option.none)
 | .tup xs=>(Oa xs lo hi).map .tup
 | _=>Option.none
noncomputable def vh (o hi:SE):SE:=fun C ρ Q=>o C ρ fun to ρ=>hi C ρ fun th ρ=>fW (f6 th) fun h=>fW (cutT to Option.none (some h)) fun t=>Q t ρ
noncomputable def JF (o lo hi:SE):SE:=fun C ρ Q=>o C ρ fun to ρ=>lo C ρ fun tl ρ=>hi C ρ fun th ρ=>fW (f6 tl) fun l=>fW (f6 th) fun h=>fW (cutT to (some l) (some h)) fun t=>Q t ρ
noncomputable def xB (fs:List (Nat×T)) (a:Nat):Option T:=(fs.find? fun p=>p.1==a).map (·.2)
noncomputable def AB:List (Nat×T)→Nat→T→List (Nat×T)
 | [],a,v=>[(a,v)]
 | p::r,a,v=>if p.1=a then (p.1,v)::r else p::AB r a v
noncomputable def HZ:List (List Nat):=[[1,3],[6],[8],[11,12],[15],[17,18,19,20],[21,22,23,24],[27,28,29,30,31,32],[6,34,8,35,36],[38,39],[40,41,42],[40,44],[45,39,44],[48,49,50,51,52]]
noncomputable def fields (c:Nat):List Nat:=HZ[c]?.getD []
theorem ua {c a:Nat} (h:(fields c).contains a=true):c < 14:=Nat.lt_of_not_le fun q=>by
 unfold fields at h
 rw [List.getElem?_eq_none (show HZ.length≤c from q)] at h;exact bt h
noncomputable def EN (t:T) (a:Nat):Option T:=(xf t).bind fun p=>if (fields p.1).contains a then xB p.2 a else Option.none
noncomputable def aq (o:jf) (a:Nat):SE:=fun C ρ Q=>o.run C ρ fun t ρ=>fW (EN t a) fun t=>Q t ρ
inductive mV where | one (x:Nm) | many (xs:List Nm)
noncomputable def mq:List Nm→List T→Env→Env
 | x::xs,t::ts,ρ=>mq xs ts (ρ.set x (.val t))
 | _,_,ρ=>ρ
noncomputable def eI (g:mV) (t:T) (ρ:Env) (Q:Env→Prop):Prop:=match g with
 | .one x=>Q (ρ.set x (.val t))
 | .many xs=>match t with
  | .tup ts=>if ts.length=xs.length then Q (mq xs ts ρ) else False
  | _=>False
noncomputable def iZ (o:jf) (ρ:Env):Option Nm:=match o with
 | .e _=>Option.none
 | .v x=>match ρ.get x with | .own _ _=>some x | _=>Option.none
noncomputable def mN (o:jf) (ρ0:Env) (n:Nat) (ρ:Env):Prop:=match iZ o ρ0 with | some x=>Env.get (ρ.drop n) x=ρ0.get x | Option.none=>True
noncomputable def fV (o:jf) (ρ0:Env) (t:T):Option (List T):=match iZ o ρ0 with
 | Option.none=>items t
 | some _=>jP t
noncomputable def vj (ok:Env→Prop) (g:mV) (ifs:SB) (elt:SE) (C:aC):List T→Env→List T→(List T→Env→Prop)→Prop
 | [],ρ,acc,Q=>Q acc ρ
 | x::xs,ρ,acc,Q=>eI g x ρ fun ρ=>ifs C ρ fun b ρ=>bq b
   (elt C ρ fun t ρ=>ok ρ∧vj ok g ifs elt C xs ρ (acc++[t]) Q)
   (ok ρ∧vj ok g ifs elt C xs ρ acc Q)
@[irreducible] noncomputable def cb (ok:Env→Prop) (g:mV) (ifs:SB) (elt:SE) (C:aC) (xs:List T) (ρ:Env) (acc:List T) (Q:List T→Env→Prop):Prop:=vj ok g ifs elt C xs ρ acc Q
noncomputable def qN (ok:Env→Prop) (g:mV) (ifs:SB) (k v:SE) (C:aC):List T→Env→List (bK×T)→(List (bK×T)→Env→Prop)→Prop
 | [],ρ,acc,Q=>Q acc ρ
 | x::xs,ρ,acc,Q=>eI g x ρ fun ρ=>ifs C ρ fun b ρ=>bq b
   (k C ρ fun tk ρ=>v C ρ fun tv ρ=>fW (fO tk) fun k'=>fW (k0 acc k' tv) fun acc=>ok ρ∧qN ok g ifs k v C xs ρ acc Q)
   (ok ρ∧qN ok g ifs k v C xs ρ acc Q)
@[irreducible] noncomputable def cT (ok:Env→Prop) (g:mV) (ifs:SB) (k v:SE) (C:aC) (xs:List T) (ρ:Env) (acc:List (bK×T)) (Q:List (bK×T)→Env→Prop):Prop:=qN ok g ifs k v C xs ρ acc Q
theorem lB {ok:Env→Prop} {g:mV} {ifs:SB} {elt:SE} {C:aC} {ρ:Env} {acc:List T} {Q:List T→Env→Prop}:cb ok g ifs elt C [] ρ acc Q=Q acc ρ:=by unfold cb;rfl
theorem jw {ok:Env→Prop} {g:mV} {ifs:SB} {elt:SE} {C:aC} {x:T} {xs:List T} {ρ:Env} {acc:List T} {Q:List T→Env→Prop}:cb ok g ifs elt C (x::xs) ρ acc Q =
  eI g x ρ fun ρ=>ifs C ρ fun b ρ=>bq b (elt C ρ fun t ρ=>ok ρ∧cb ok g ifs elt C xs ρ (acc++[t]) Q) (ok ρ∧cb ok g ifs elt C xs ρ acc Q):=by unfold cb;rfl
theorem ju {ok:Env→Prop} {g:mV} {ifs:SB} {k v:SE} {C:aC} {ρ:Env} {acc:List (bK×T)} {Q:List (bK×T)→Env→Prop}:cT ok g ifs k v C [] ρ acc Q=Q acc ρ:=by unfold cT;rfl
theorem lQ {ok:Env→Prop} {g:mV} {ifs:SB} {k v:SE} {C:aC} {x:T} {xs:List T} {ρ:Env} {acc:List (bK×T)} {Q:List (bK×T)→Env→Prop}:cT ok g ifs k v C (x::xs) ρ acc Q =
  eI g x ρ fun ρ=>ifs C ρ fun b ρ=>bq b (k C ρ fun tk ρ=>v C ρ fun tv ρ=>fW (fO tk) fun k'=>fW (k0 acc k' tv) fun acc=>ok ρ∧cT ok g ifs k v C xs ρ acc Q) (ok ρ∧cT ok g ifs k v C xs ρ acc Q):=by unfold cT;rfl
noncomputable def c8 (xs:List Nm) (ρ:Env):Env:=xs.map (fun x=>(x,Slot.unb))++ρ
noncomputable def aE (vs:List Nm) (o:jf) (g:mV) (ifs:SB) (elt:SE):SE:=fun C ρ Q=>
 o.run C ρ fun t ρ0=>fW (fV o ρ0 t) fun xs=>cb (mN o ρ0 vs.length) g ifs elt C xs (c8 vs ρ0) [] fun l ρ=>Q (.list l) (ρ.drop vs.length)
noncomputable def nG (vs:List Nm) (o:jf) (g:mV) (ifs:SB) (k v:SE):SE:=fun C ρ Q=>
 o.run C ρ fun t ρ0=>fW (fV o ρ0 t) fun xs=>cT (mN o ρ0 vs.length) g ifs k v C xs (c8 vs ρ0) [] fun l ρ=>Q (.dict l) (ρ.drop vs.length)
noncomputable def zu (C:aC) (f:Nat) (ts:List T) (s:Slot) (Q:T→Slot→Prop):Prop:=match s with
 | .own fx t=>C f ts (some t) fun v t'=>fW t' fun t'=>Q v (.own fx t')
 | _=>False
noncomputable def aK (f:Nat) (ss:sw) (r:Option Nm):SE:=fun C ρ Q=>(match r with | Option.none=>True | some x=>isB (ρ.get x))∧ss C ρ fun ts ρ=>match r with
 | Option.none=>C f ts Option.none fun t _=>Q t ρ
 | some x=>zu C f ts (ρ.get x) fun v s=>Q v (ρ.set x s)
noncomputable abbrev Hu:=Nat→Nat→Option Nat
noncomputable def EC (mt:Hu) (to:T) (nm:Nat):Option Nat:=(xf to).bind fun p=>if (xB p.2 nm).isNone then mt p.1 nm else Option.none
inductive BM where | get | values | index
noncomputable def NC (b:BM) (to:T) (ts:List T):Option T:=match b with
 | .get=>(kU to).bind fun kvs=>(two ts).bind fun p=>(fO p.1).bind fun k=>if tZ k kvs then some ((gw kvs k).getD p.2) else Option.none
 | .values=>(kU to).bind fun kvs=>if ts.isEmpty then some (.dvals kvs) else Option.none
 | .index=>(jP to).bind fun xs=>((one ts).bind f6).bind fun i=>(cZ xs).bind fun l=>if l.contains i then some (.int (l.idxOf i)) else Option.none
noncomputable def cv (mt:Hu) (o:SE) (nm:Nat) (ss:sw):SE:=fun C ρ Q=>o C ρ fun to ρ=>fW (EC mt to nm) fun f=>ss C ρ fun ts ρ=>C f (to::ts) Option.none fun t _=>Q t ρ
noncomputable def O6:BM→T→Bool
 | .get=>fun t=>(kU t).isSome
 | .values=>fun t=>(kU t).isSome
 | .index=>fun t=>(jP t).isSome
theorem Ai {P:Prop} {t:T} (h:(kU t).isSome=true) (k:∀ kvs,t=.dict kvs→P):P:=by
 induction q:kU t with
 | none=>rw [q] at h;exact bt h
 | some kvs=>exact k kvs (kq q)
noncomputable def Au (b:BM) (o:jf) (ss:sw):SE:=match o with
 | .e s=>fun C ρ Q=>s C ρ fun to ρ=>O6 b to=true∧ss C ρ fun ts ρ=>fW (NC b to ts) fun t=>Q t ρ
 | .v x=>fun C ρ Q=>qi (ρ.get x) (fun to=>O6 b to=true)∧ss C ρ fun ts ρ=>qi (ρ.get x) fun to=>fW (NC b to ts) fun t=>Q t ρ
noncomputable def dF (c f:Nat) (ss:sw):SE:=fun C ρ Q=>ss C ρ fun ts ρ=>c < 14∧C f ts (some (.inst c [])) fun r t'=>r=.none∧fW t' fun t'=>Q t' ρ
noncomputable def tY:SS:=fun _ _ _=>False
noncomputable def aj:SS:=fun _ ρ Q=>Q .next ρ
noncomputable def ai (a b:SS):SS:=fun C ρ Q=>a C ρ fun fl ρ=>match fl with | .next=>b C ρ Q | f=>Q f ρ
noncomputable def dQ (s:Slot):Prop:=match s with | .own true _=>False | _=>True
noncomputable def ay (x:Nm) (e:SE):SS:=fun C ρ Q=>e C ρ fun t ρ=>dQ (ρ.get x)∧Q .next (ρ.set x (.val t))
noncomputable def ii (x:Nm) (e:SE):SS:=fun C ρ Q=>e C ρ fun t ρ=>dQ (ρ.get x)∧Q .next (ρ.set x (.own false t))
noncomputable def vH (xs:List Nm) (e:SE):SS:=fun C ρ Q=>e C ρ fun t ρ=>eI (.many xs) t ρ fun ρ=>Q .next ρ
noncomputable def jJ (o i v:T):Option T:=match o with
 | .dict kvs=>(fO i).bind fun k=>(k0 kvs k v).map .dict
 | .list xs=>(f6 i).bind fun k=>if 0≤k∧k.toNat < xs.length then some (.list (xs.set k.toNat v)) else Option.none
 | _=>Option.none
noncomputable def bF (x:Nm) (i v:SE):SS:=fun C ρ Q=>v C ρ fun tv ρ=>isB (ρ.get x)∧i C ρ fun ti ρ=>match ρ.get x with
 | .own fx to=>fW (jJ to ti tv) fun to'=>Q .next (ρ.set x (.own fx to'))
 | _=>False
noncomputable def zN (t:T) (a:Nat) (v:T):Option T:=(xf t).bind fun p=>if (fields p.1).contains a&&decide (p.2.length < 99) then some (.inst p.1 (AB p.2 a v)) else Option.none
noncomputable def aF (x:Nm) (a:Nat) (v:SE):SS:=fun C ρ Q=>v C ρ fun tv ρ=>match ρ.get x with
 | .own fx to=>fW (zN to a tv) fun to'=>Q .next (ρ.set x (.own fx to'))
 | _=>False
noncomputable def GW (o v:T):Option T:=(jP o).bind fun xs=>if xs.length < SZ then some (.list (xs++[v])) else Option.none
noncomputable def AQ (o v:T):Option T:=(jP o).bind fun xs=>(jP v).bind fun ys=>if xs.length+ys.length≤SZ then some (.list (xs++ys)) else Option.none
noncomputable def Ms:Slot→Prop | .own _ (.list _)=>True | _=>False
noncomputable def kr (x:Nm) (e:SE):SS:=fun C ρ Q=>Ms (ρ.get x)∧e C ρ fun t ρ=>match ρ.get x with
 | .own fx to=>fW (GW to t) fun to'=>Q .next (ρ.set x (.own fx to'))
 | _=>False
noncomputable def ml (x:Nm) (e:SE):SS:=fun C ρ Q=>Ms (ρ.get x)∧e C ρ fun t ρ=>match ρ.get x with
 | .own fx to=>fW (AQ to t) fun to'=>Q .next (ρ.set x (.own fx to'))
 | _=>False
noncomputable def Dy (e:SE):SS:=fun C ρ Q=>e C ρ fun t ρ=>match t with | .none=>Q .next ρ | _=>False
noncomputable def aR (e:SE):SS:=fun C ρ Q=>e C ρ fun t ρ=>Q (.ret t) ρ
noncomputable def Ey:SS:=fun _ ρ Q=>Q .cont ρ
noncomputable def fu (c:SB) (a b:SS):SS:=fun C ρ Q=>c C ρ fun t ρ=>bq t (a C ρ Q) (b C ρ Q)
noncomputable def kc (c:SB) (b:SS) (C:aC):Nat→Env→(Fl→Env→Prop)→Prop
 | 0,_,_=>False
 | n+1,ρ,Q=>c C ρ fun t ρ=>bq t (b C ρ fun fl ρ=>match fl with
   | .next=>kc c b C n ρ Q
   | .cont=>kc c b C n ρ Q
   | .brk=>Q .next ρ
   | .ret t=>Q (.ret t) ρ) (Q .next ρ)
noncomputable def rM (c:SB) (b:SS):SS:=fun C ρ Q=>∃ n,kc c b C n ρ Q
noncomputable def y3 (g:mV) (b:SS) (C:aC):List T→Env→(Fl→Env→Prop)→Prop
 | [],ρ,Q=>Q .next ρ
 | x::xs,ρ,Q=>eI g x ρ fun ρ=>b C ρ fun fl ρ=>match fl with
   | .next=>y3 g b C xs ρ Q
   | .cont=>y3 g b C xs ρ Q
   | .brk=>Q .next ρ
   | .ret t=>Q (.ret t) ρ
@[irreducible] noncomputable def eV (g:mV) (b:SS) (C:aC) (xs:List T) (ρ:Env) (Q:Fl→Env→Prop):Prop:=y3 g b C xs ρ Q
theorem ng {g:mV} {b:SS} {C:aC} {ρ:Env} {Q:Fl→Env→Prop}:eV g b C [] ρ Q=Q .next ρ:=by unfold eV;rfl
theorem lw {g:mV} {b:SS} {C:aC} {x:T} {xs:List T} {ρ:Env} {Q:Fl→Env→Prop}:eV g b C (x::xs) ρ Q =
  eI g x ρ fun ρ=>b C ρ fun fl ρ=>match fl with
   | .next=>eV g b C xs ρ Q
   | .cont=>eV g b C xs ρ Q
   | .brk=>Q .next ρ
   | .ret t=>Q (.ret t) ρ:=by unfold eV;rfl
noncomputable def fP (o:jf) (g:mV) (b:SS):SS:=fun C ρ Q=>o.run C ρ fun t ρ0=>iZ o ρ0=Option.none∧fW (items t) fun xs=>eV g b C xs ρ0 Q
structure aG where
 params:List Nm
 ref:Option Nm
 dflts:List T
 locals:List Nm
 fresh:Bool
 body:SS
noncomputable def i0 (ref:Option Nm):List Nm→List T→Option T→Option Env
 | [],[],_=>some []
 | x::xs,ts,r=>if ref=some x then (match r with | some t=>(i0 ref xs ts r).map ((x,Slot.own true t)::·) | Option.none=>Option.none)
   else (match ts with | t::ts=>(i0 ref xs ts r).map ((x,Slot.val t)::·) | []=>Option.none)
 | [],_::_,_=>Option.none
noncomputable def rS (n:Nat) (ts ds:List T):List T:=ts++ds.drop (ds.length - (n - ts.length))
noncomputable def AR:Fl→T | .ret t=>t | _=>.none
noncomputable def nu (ref:Option Nm) (ρ:Env) (Q:Option T→Prop):Prop:=match ref with
 | Option.none=>Q Option.none
 | some x=>match ρ.get x with | .own true t=>Q (some t) | _=>False
noncomputable def vI (fd:aG):Nat:=fd.params.length - (match fd.ref with | some _=>1 | Option.none=>0)
noncomputable def Pz (fd:aG) (C:aC) (ts:List T) (r:Option T) (Q:T→Option T→Prop):Prop:=
 fW (i0 fd.ref fd.params (rS (vI fd) ts fd.dflts) r) fun ρ=>fd.body C (ρ++c8 fd.locals []) fun fl ρ=>nu fd.ref ρ fun r'=>Q (AR fl) r'
noncomputable def t6 (tab:Nat→Option aG):Nat→aC
 | 0=>fun _ _ _ _=>False
 | n+1=>fun f ts r Q=>fW (tab f) fun fd=>fd.ref.isSome=r.isSome∧Pz fd (t6 tab n) ts r Q
end
section
structure OE where
 id:Str→Option Nat
 fn:Str→Option (Nat×Option Nat)
 fresh:Str→Bool
 cls:Str→Option (Nat×Nat)
 glob:Str→Option T
 mt:Hu
noncomputable def Bx (x:Str):Option Bi:=
 if x="len" then some .len else if x="sorted" then some .sorted else if x="tuple" then some .tuple else if x="list" then some .list
 else if x="dict" then some .dict else if x="set" then some .set else if x="abs" then some .abs else if x="int" then some .int
 else if x="range" then some .range else if x="all" then some .all else Option.none
noncomputable def H2 (x:Str):Option BM:=if x="get" then some .get else if x="values" then some .values else if x="index" then some .index else Option.none
noncomputable abbrev Jr (o:Option SE):SE:=match o with | some d=>d | Option.none=>b6
noncomputable abbrev NU (o:Option SS):SS:=match o with | some d=>d | Option.none=>tY
noncomputable abbrev QC (c:Bool) (d:SE):SE:=match c with | true=>d | false=>b6
noncomputable def oW:Expr→Option Str | .Name x _=>some x | _=>Option.none
noncomputable def Gb:Expr→Option (List Expr) | .Tuple es _ _=>some es | _=>Option.none
noncomputable def zL:Expr→Option (Expr×Str×Pos) | .Attribute o m p=>some (o,m,p) | _=>Option.none
noncomputable def Md:Expr→Option (Expr×Expr) | .Subscript o i _=>some (o,i) | _=>Option.none
noncomputable def Jv:Expr→Option (Expr×List Expr×List Keyword×Pos) | .Call f as ks p=>some (f,as,ks,p) | _=>Option.none
theorem lR {P:Prop} {e:Expr} {x:Str} (h:oW e=some x) (k:∀ p,e=.Name x p→P):P:=by
 cases e with
 | Name y p=>exact k p (aw (fun z=>Expr.Name z p) (az h))
 | _=>exact nn h
theorem Fq {P:Prop} {e:Expr} {x:List Expr} (h:Gb e=some x) (k:∀ a p,e=.Tuple x a p→P):P:=by
 cases e with
 | Tuple y a p=>exact k a p (aw (fun z=>Expr.Tuple z a p) (az h))
 | _=>exact nn h
theorem zy {e:Expr} {x:Expr×Str×Pos} (h:zL e=some x):e=.Attribute x.1 x.2.1 x.2.2:=by
 cases e with
 | Attribute y a p=>exact aw (fun x:Expr×Str×Pos=>Expr.Attribute x.1 x.2.1 x.2.2) (az h)
 | _=>exact nn h
theorem JQ {P:Prop} {e:Expr} {x:Expr×Expr} (h:Md e=some x) (k:∀ p,e=.Subscript x.1 x.2 p→P):P:=by
 cases e with
 | Subscript y a p=>exact k p (aw (fun x:Expr×Expr=>Expr.Subscript x.1 x.2 p) (az h))
 | _=>exact nn h
theorem Ad {e:Expr} {x:Expr×List Expr×List Keyword×Pos} (h:Jv e=some x):e=.Call x.1 x.2.1 x.2.2.1 x.2.2.2:=by
 cases e with
 | Call y a p q=>exact aw (fun x:Expr×List Expr×List Keyword×Pos=>Expr.Call x.1 x.2.1 x.2.2.1 x.2.2.2) (az h)
 | _=>exact nn h
noncomputable def H3 (sc:Scope) (x:Str) (k:NameKind):Bool:=decide (sc.names.lookup x=some k)
theorem oT {sc:Scope} {x:Str} {k:NameKind} (h:H3 sc x k=true):sc.names.lookup x=some k:=bH h
section
variable (tb:OE)
noncomputable def Ga:Const→Option T
 | .none=>some .none
 | .bool b=>some (.bool b)
 | .int i=>some (.int i)
 | .str s=>(tb.id s).map .str
 | _=>Option.none
noncomputable def cU (sc:Scope) (x:Str):Bool:=H3 sc x .local||H3 sc x .cell||H3 sc x .free
noncomputable def cw (sc:Scope) (x:Str):Bool:=H3 sc x .globalImplicit
noncomputable def ur (sc:Scope) (x:Str):SE:=
 if cU sc x then Jr ((tb.id x).map ae)
 else if cw sc x then Jr ((tb.glob x).map ah) else b6
noncomputable def cq (sc:Scope) (x:Str):Bool:=H3 sc x .local||H3 sc x .cell
noncomputable def oY (sc:Scope) (e:Expr):Option Nat:=(oW e).bind fun x=>if cU sc x then tb.id x else Option.none
noncomputable def iS (sc:Scope):List Expr→Option (List Nat)
 | []=>some []
 | e::r=>(oW e).bind fun x=>if cq sc x then (tb.id x).bind fun i=>(iS sc r).map (i::·) else Option.none
noncomputable def eM (sc:Scope) (e:Expr):Option mV:=match Gb e with
 | some es=>(iS tb sc es).map .many
 | Option.none=>(oW e).bind fun x=>if cq sc x then (tb.id x).map .one else Option.none
noncomputable def cY (e:Expr):Bool:=!(e.ctorIdx==22)
noncomputable def tU (e:Expr):Bool:=!(e.ctorIdx==7)
noncomputable def gX (args:List Expr):Bool:=args.all cY&&decide (args.length < 29)
noncomputable def many (args:List Expr):Bool:=args.all cY&&decide (args.length < 1000)
noncomputable def fg:Expr→Bool
 | .Call (.Name _ _) [] [] _=>false
 | _=>true
noncomputable def mO (e:Expr):Bool:=e.ctorIdx==25
noncomputable def aX (sc:Scope):List Str:=(sc.names.filter fun p=>(p.2==.local||p.2==.cell)&&p.1 != (".0":Str)).map (·.1)
noncomputable def y6 (sc scope:Scope):Bool:=scope.kind==.function&&!(aX scope).isEmpty&&decide ((scope.names.map (·.1)).Nodup) &&
 scope.names.all fun p=>decide (p.2=.local)||decide (p.2=.globalImplicit)||(decide (p.2=.free)&&(H3 sc p.1 .cell||H3 sc p.1 .free)&&(tb.id p.1).isSome)
noncomputable def dM:List Str→Option (List Nat)
 | []=>some []
 | x::r=>(tb.id x).bind fun i=>(dM r).map (i::·)
noncomputable def z4 (out sc:Scope) (t:Option mV) (o:jf) (ifs:SB) (elt:SE):SE:=Jr (if y6 tb out sc then t.bind fun g=>(dM tb (aX sc)).map fun vs=>aE vs o g ifs elt else Option.none)
noncomputable def Av (out sc:Scope) (t:Option mV) (o:jf) (ifs:SB) (k v:SE):SE:=Jr (if y6 tb out sc then t.bind fun g=>(dM tb (aX sc)).map fun vs=>nG vs o g ifs k v else Option.none)
noncomputable def zO (sc:Scope) (args:List Expr) (p:Nat):Option Nat:=(args[p]?).bind (oY tb sc)
noncomputable def Qm (sc:Scope) (f:Str) (args:List Expr) (first:Option SE) (opd:Option jf):Option SE:=
 if f="isinstance" then first.bind fun s=>(two args).bind fun p=>(oW p.2).bind fun c=>if cw sc c then (tb.cls c).map fun c=>pX s c.1 else Option.none
 else (Bx f).bind fun b=>opd.map fun o=>bW b o
noncomputable def P7 (sc:Scope) (args:List Expr) (all:sw) (but:Nat→sw) (i:Nat) (r:Option Nat):Option SE:=match r with
 | Option.none=>some (aK i all Option.none)
 | some p=>(zO tb sc args p).map fun x=>aK i (but p) (some x)
noncomputable def EZ (sc:Scope) (f:Str) (args:List Expr) (all:sw) (but:Nat→sw) (first:Option SE) (opd:Option jf):Option SE:=match tb.cls f with
 | some c=>some (dF c.1 c.2 all)
 | Option.none=>match tb.fn f with
  | some p=>P7 tb sc args all but p.1 p.2
  | Option.none=>Qm tb sc f args first opd
noncomputable def FQ (sc:Scope) (f:Str) (args:List Expr) (all:sw) (but:Nat→sw) (first:Option SE) (opd:Option jf):SE:=
 Jr (if cw sc f&&gX args&&f != ("__debug__":Str) then EZ tb sc f args all but first opd else Option.none)
noncomputable def yH (m:Str) (ob:Expr) (ap p:Pos) (args:List Expr) (o:SE) (od:jf) (ss:sw):SE:=if fg ob&&gX args&&ap.endLine==p.line then (match H2 m with
 | some .values=>Au .values (.e o) ss
 | some b=>Au b od ss
 | Option.none=>match tb.id m with | some i=>cv tb.mt o i ss | Option.none=>b6) else b6
noncomputable def bf (sc:Scope) (e:Expr) (s:SE):jf:=match oY tb sc e with
 | some i=>.v i
 | Option.none=>.e s
noncomputable def wL (op:BoolOp):List SE→SE
 | [a,b]=>(match op with | .And=>K7 a b | .Or=>OY a b)
 | _=>b6
noncomputable def CX (op:BoolOp) (a r:SB):SB:=match op with | .And=>bB a r | .Or=>uy a r
noncomputable def De (ops:List CmpOp) (l:SE) (rs:List SE) (ro:List jf):SB:=match ops,rs,ro with
 | [op],_,[o]=>aD op l o
 | [op,op'],[m,r],_=>m5 op op' l m r
 | _,_,_=>zI
noncomputable def Ja (ops:List CmpOp) (l:SE) (ro:List jf):SE:=match ops,ro with
 | [op],[o]=>gF op l o
 | _,_=>b6
noncomputable def dictOf (ks vs:List SE):SE:=match ks,vs with
 | [],[]=>dP
 | [k],[v]=>rH k v
 | _,_=>b6
noncomputable def kB:List SE→sw
 | []=>ak
 | s::r=>aa s (kB r)
noncomputable def E2 (o:SE) (od:jf) (i:SE) (lo hi:Option SE) (sl:Bool):SE:=match sl,lo,hi with
 | false,_,_=>aZ od i
 | true,Option.none,some h=>vh o h
 | true,some l,some h=>JF o l h
 | _,_,_=>b6
noncomputable def yJ (n:Str) (ob:Expr) (od:jf):SE:=if fg ob then (match tb.id n with | some i=>aq od i | Option.none=>b6) else b6
mutual
noncomputable def bA (sc:Scope):Expr→SE
 | .Constant c _ _=>(match Ga tb c with | some t=>ah t | Option.none=>b6)
 | .Name x _=>ur tb sc x
 | .BinOp l op r _=>cy op (bA sc l) (bA sc r)
 | .UnaryOp op x _=>(match op with | .USub=>sR (bA sc x) | _=>b6)
 | .BoolOp op vs _=>wL op (fc sc vs)
 | .IfExp t b o _=>iW (jF sc t (bf tb sc t (bA sc t))) (bA sc b) (bA sc o)
 | .Dict ks vs _=>dictOf (Ao sc ks) (fc sc vs)
 | .List es _=>if many es then bM (kB (fc sc es)) else b6
 | .Tuple es _ _=>if many es then aO (kB (fc sc es)) else b6
 | .ListComp elt gs scope _=>(match gs with
  | [g]=>(match g with | ⟨tgt,iter,ifs,a⟩=>if a=0 then z4 tb sc scope (eM tb scope tgt) (bf tb sc iter (bA sc iter)) (hB scope .And ifs) (bA scope elt) else b6)
  | _=>b6)
 | .DictComp k v gs scope _=>(match gs with
  | [g]=>(match g with | ⟨tgt,iter,ifs,a⟩=>if a=0 then Av tb sc scope (eM tb scope tgt) (bf tb sc iter (bA sc iter)) (hB scope .And ifs) (bA scope k) (bA scope v) else b6)
  | _=>b6)
 | .Compare l ops rs _=>if rs.all tU then Ja ops (bA sc l) (oZ sc rs) else b6
 | .Call f args ks p=>(match ks with
  | []=>(match f with
   | .Name x _=>FQ tb sc x args (kB (fc sc args)) (fun p=>kB ((fc sc args).eraseIdx p)) (fc sc args)[0]? (match args with | [_]=>(oZ sc args)[0]? | _=>Option.none)
   | .Attribute o m ap=>yH tb m o ap p args (bA sc o) (bf tb sc o (bA sc o)) (kB (fc sc args))
   | _=>b6)
  | _=>b6)
 | .Attribute v n _=>yJ tb n v (bf tb sc v (bA sc v))
 | .Subscript v s _=>(match s with
  | .Slice lo hi st _=>(match st with
   | Option.none=>E2 (bA sc v) (bf tb sc v (bA sc v)) b6 (match lo with | some l=>some (bA sc l) | Option.none=>Option.none) (match hi with | some h=>some (bA sc h) | Option.none=>Option.none) true
   | some _=>b6)
  | s=>E2 (bA sc v) (bf tb sc v (bA sc v)) (bA sc s) Option.none Option.none false)
 | _=>b6
noncomputable def fc (sc:Scope):List Expr→List SE
 | []=>[]
 | e::r=>bA sc e::fc sc r
noncomputable def oZ (sc:Scope):List Expr→List jf
 | []=>[]
 | e::r=>bf tb sc e (bA sc e)::oZ sc r
noncomputable def Ao (sc:Scope):List (Option Expr)→List SE
 | []=>[]
 | e::r=>(match e with | some e=>bA sc e | Option.none=>b6)::Ao sc r
noncomputable def jF (sc:Scope):Expr→jf→SB
 | .UnaryOp op x _,whole=>(match op with | .Not=>qD (jF sc x (bf tb sc x (bA sc x))) | _=>cQ whole)
 | .BoolOp op vs _,_=>hB sc op vs
 | .IfExp t b o _,_=>Jl (jF sc t (bf tb sc t (bA sc t))) (jF sc b (bf tb sc b (bA sc b))) (jF sc o (bf tb sc o (bA sc o)))
 | .Compare l ops rs _,_=>if rs.all tU then De ops (bA sc l) (fc sc rs) (oZ sc rs) else zI
 | _,whole=>cQ whole
noncomputable def hB (sc:Scope) (op:BoolOp):List Expr→SB
 | []=>(match op with | .And=>aI | .Or=>nP)
 | e::r=>CX op (jF sc e (bf tb sc e (bA sc e))) (hB sc op r)
end
noncomputable def IZ (e:Expr):Bool:=match e with
 | .List _ _=>true
 | .Dict _ _ _=>true
 | .ListComp _ _ _ _=>true
 | .Call (.Name f _) _ _ _=>f="dict"||tb.fresh f
 | _=>false
noncomputable def CV (ow:List Str) (x:Str) (e:Expr) (s:SE):Option SS:=(tb.id x).bind fun i=>if ow.contains x then (if IZ tb e then some (ii i s) else Option.none) else some (ay i s)
noncomputable def wg (sc:Scope) (o:Expr) (m:Str) (ap p:Pos) (args:List Expr) (ss:List SE):Option SS:=if gX args&&ap.endLine==p.line then (one ss).bind fun s=>(oY tb sc o).bind fun i=>if m="append" then some (kr i s) else if m="extend" then some (ml i s) else Option.none else Option.none
noncomputable def Nv (sc:Scope) (v:Expr):Option SS:=(Jv v).bind fun c=>if c.2.2.1.isEmpty then (match zL c.1 with
 | some a=>wg tb sc a.1 a.2.1 a.2.2 c.2.2.2 c.2.1 (fc tb sc c.2.1)
 | Option.none=>(oW c.1).map fun _=>Dy (bA tb sc v)) else Option.none
noncomputable def Nt (sc:Scope) (ow:List Str) (t v:Expr):Option SS:=match oW t with
 | some x=>if cq sc x then CV tb ow x v (bA tb sc v) else Option.none
 | Option.none=>match Gb t with
  | some es=>if mO v then Option.none else (iS tb sc es).map fun xs=>vH xs (bA tb sc v)
  | Option.none=>match Md t with
   | some p=>(oY tb sc p.1).map fun j=>bF j (bA tb sc p.2) (bA tb sc v)
   | Option.none=>(zL t).bind fun a=>(oY tb sc a.1).bind fun j=>(tb.id a.2.1).map fun k=>aF j k (bA tb sc v)
mutual
noncomputable def LP (sc:Scope) (ow:List Str):Stmt→SS
 | .Expr v _=>NU (Nv tb sc v)
 | .Return v _=>NU (v.map fun e=>aR (bA tb sc e))
 | .Assign ts v _=>NU ((one ts).bind fun t=>Nt tb sc ow t v)
 | .If t b o _=>fu (jF tb sc t (bf tb sc t (bA tb sc t))) (ix sc ow b) (ix sc ow o)
 | .While t b o _=>(match o with | []=>rM (jF tb sc t (bf tb sc t (bA tb sc t))) (ix sc ow b) | _=>tY)
 | .For t i b o _=>(match o with | []=>NU ((eM tb sc t).map fun g=>fP (bf tb sc i (bA tb sc i)) g (ix sc ow b)) | _=>tY)
 | .Continue _=>Ey
 | .Pass _=>aj
 | _=>tY
noncomputable def ix (sc:Scope) (ow:List Str):List Stmt→SS
 | []=>aj
 | s::r=>ai (LP sc ow s) (ix sc ow r)
end
end
end
section
noncomputable def mM:List Str:=[Str.ofString "self",Str.ofString "codes",Str.ofString "code",Str.ofString "variations",Str.ofString "rows",Str.ofString "told",Str.ofString "classes",Str.ofString "glyph",Str.ofString "sets",Str.ofString "first",Str.ofString "row",Str.ofString "pairs",Str.ofString "is_second",Str.ofString "key",Str.ofString "glyphs",Str.ofString "mapping",Str.ofString "single",Str.ofString "x_offset",Str.ofString "y_offset",Str.ofString "x_advance",Str.ofString "y_advance",Str.ofString "kind",Str.ofString "flag",Str.ofString "mark_set",Str.ofString "tables",Str.ofString "held",Str.ofString "table",Str.ofString "charmap",Str.ofString "metrics",Str.ofString "gdef",Str.ofString "gsub",Str.ofString "gpos",Str.ofString "kern",Str.ofString "pair",Str.ofString "attach",Str.ofString "points",Str.ofString "carets",Str.ofString "one",Str.ofString "required",Str.ofString "features",Str.ofString "tag",Str.ofString "default",Str.ofString "languages",Str.ofString "rest",Str.ofString "lookups",Str.ofString "scripts",Str.ofString "feature",Str.ofString "lookup",Str.ofString "units",Str.ofString "ascent",Str.ofString "descent",Str.ofString "advances",Str.ofString "bearings",Str.ofString "classdef",Str.ofString "found",Str.ofString "layout",Str.ofString "number",Str.ofString "ligature",Str.ofString "other",Str.ofString "reverse",Str.ofString "steps",Str.ofString "context",Str.ofString "chain",Str.ofString "made",Str.ofString "line",Str.ofString "seen",Str.ofString "at",Str.ofString "begun",Str.ofString "known",Str.ofString "font",Str.ofString "lead",Str.ofString "is_nothing",Str.ofString "numbers",Str.ofString "coverage",Str.ofString "firsts",Str.ofString "multiple",Str.ofString "alternate",Str.ofString "adjust",Str.ofString "cursive",Str.ofString "rules",Str.ofString "values",Str.ofString "ends",Str.ofString "base",Str.ofString "component",Str.ofString "mark",Str.ofString "marks",Str.ofString "count",Str.ofString "k",Str.ofString "mirrors",Str.ofString "defaults",Str.ofString "selector",Str.ofString "others",Str.ofString "kept",Str.ofString "places",Str.ofString "wanted",Str.ofString "layouts",Str.ofString "pen",Str.ofString "digit",Str.ofString "many",Str.ofString "seat",Str.ofString "cell",Str.ofString "great",Str.ofString "blend",Str.ofString "DFLT",Str.ofString "named",Str.ofString "lap",Str.ofString "step",Str.ofString "second",Str.ofString "body",Str.ofString "three",Str.ofString "lefts",Str.ofString "live",Str.ofString "due",Str.ofString "cut",Str.ofString "liga",Str.ofString "script",Str.ofString "before",Str.ofString "chosen",Str.ofString "left"]
noncomputable def Ia:List (Nat×Nat):=[(141054563233735966835,0),(177179548526400721163059299,1),(139671666743203266659,2),(304129033110592094247269292428996170570858033363142377590,3),(159032102174981030002,4),(138288790112588202100,5),(219923325901453640369206977448309948515,6),(160231968108595703624499303,7),(159032098451233243251,8),(178720258398610242166915174,9),(147708343943282,10),(177179566503932214908092528,11),(237372959675217451199773179539798805209515011801193,12),(150190823899243,13),(197397865789933490248444122234983,14),(196974838476779093410215825758506516589,15),(173366846928235131871376027746419,16),(247149816669473568052363895123947724320211064,17),(247149816669473568052363895123947724320211065,18),(239746663491703137280559685812076491247187236159608,19),(239746663491703137280559685812076491247187236159609,20),(138288792595072614507,21),(142437436140622184550,22),(247149816669473568041579068455922182732709997,23),(197397861167856423332766762991732,24),(138288790112577060968,25),(155609891041680026265256052,26),(214186193317143439583768881504511852643,27),(219923322468434658541569239295209046125,28),(141054554545016012903,29),(135523028162643689575,30),(159032092245017755751,31),(152117663165844881515,32),(157649198236948299888,33),(178516338424393934145133252706401,34),(197397884278216865819008564134000,35),(197397884278204419851134543396963,36),(125365922955375,37),(213060213425419853261199473973836666023247986,38),(245019216466718601680311870788746970804846694,39),(127848399569012,40),(221835713156400502882221799986297110628,41),(272978849296147758593291840821417965454330317308012,42),(160414983770567147634,43),(219923344782976383805421360150692692076,44),(219923351648975830192370833719102210163,45),(193150094863942193678355939259283996774,46),(192248380456521523338737398775916,47),(177179569269705336081481845,48),(199114376821521917686853904040033,49),(221835716589379426757936176737853702244,50),(245019216466692854142715102403424655922954337,51),(245019220291462214517211605414387972507500642,52),(217321413830902322038331809973868179166593123,53),(154069203295696435644661862,54),(199114387606369329041835304222828,55),(195681359380382025944703904841838,56),(215190838489056365283380492200041894708314220,57),(175638858014625390690304111,58),(193150096580439359046645862141154099314,59),(177179563738154128788160627,60),(221835733754397301387130603169357168739,61),(169476101499041762433826915,62),(139671666743187669101,63),(139671679155652067436,64),(152117647029652750451,65),(129237089,66),(169476118093687936857210978,67),(169476120859470987990532203,68),(160414977564350546022,69),(138288776458876026988,70),(272393856901846327248369742777054100858643950397064151145,71),(219923348215955307665923966117198757998,72),(215190817452894401500591643399252335610757219,73),(197397884278223780262982664650854,74),(215190827014796346169882022581862613351989357,75),(239746699711881723230009783764169136992135301300321,76),(199114384524996602781989180014689,77),(193150101729930855233105854697518202979,78),(177179548526410651134132338,79),(197397861167868869324224433553526,80),(159032078591314493541,81),(139671685361870897250,82),(275352595724635587389584274699638769670449545543779,83),(147969003484102066285,84),(177179556823737462061858925,85),(178720251484181163012980835,86),(107,87),(219923348215970714593167960247289577581,88),(245019245152336894138621074654607697817960548,89),(242888635387721179075468730201336131458760819,90),(197397881196823396278131188039791,91),(160414980046830501995,92),(197397861167843977352480314622064,93),(171650334355958958398484541145207,94),(219923351648983533653227063248598138988,95),(136537122865264,96),(178720244569730982671351908,97),(167329410367232213101,98),(160414961428147273843,99),(149351882597212684387,100),(178720233506636015554658407,101),(154069203295676575712542818,102),(116162565423413723204,103),(154069190849707460449599598,104),(139019609505900,105),(154883420150828367987,106),(171650348222166649974687091982451,107),(167329397954792325218,108),(155609881361493962145661044,109),(177179569269701612334809196,110),(139671689085616455788,111),(125365930754148,112),(143984613982307,113),(134140124224615415916,114),(199114379902908472812305808294003,115),(173366856172389265635703457644642,116),(188815352230563260874273084407907,117),(160414967634375016556,118)]
noncomputable def li (l:List Nat):Nat:=l.foldr (fun c n=>c+1114112*n) 0
noncomputable def Jm:List (Nat×Nat)→Nat→Option Nat
 | [],_=>none
 | (c,i)::r,n=>match Nat.beq c n with | true=>some i | false=>Jm r n
noncomputable def Lr (x:Str):Option Nat:=match Jm Ia (li x.cps.toList) with
 | some i=>(match mM[i]? with | some y=>if y=x then some i else none | none=>none)
 | none=>none
noncomputable def rQ:List (Nat×(Nat×Option Nat)):=[(468568682755806180050200052463587409626814930447540583027919873730745601261633652,(30,none)),(420575959135869971336362577204480015239457129556019433485141786165930688622,(31,none)),(510804357936724759527957157494121707808302310218132003154190506097445808204987198167298670701,(32,some 2)),(231397572188505077755326121416957427821,(33,some 3)),(329994646376471711014590341138422864879294422698044971940773990,(34,some 2)),(285616842241346852664783293904201996126703614674639716454,(35,some 1)),(269749261258157859047452938425143252575974380342537355363,(36,none)),(193150094863942193676973070076150022243,(37,none)),(306423658954573246541538774622134342841201861516503712802340962,(38,none)),(272978887646966707182885868213451301070784236683372,(39,none)),(237372955414017045722453913932602409240386847441008,(40,none)),(328259875779826634853452886168460434648502404147660787314460618326125,(41,none)),(314707427553903400250506069165807258496233148503076175988,(42,none)),(338833834427462433376312060674600329136964805104835189528658036,(43,none)),(267104656119598729313819202597995347589523910559764119651,(44,none)),(331542483082135153754743555650483482835798653403714387053742924300387,(45,none)),(242888623913437128973922350334218099392577635,(46,none)),(556321518218731129967299226183027568092559813723305150259820613127988820606364921780282654819,(47,none)),(361085833893980212176286183260192154402140891039569100297748466696291,(48,none)),(264460041486136978987055994812793943799949601933649838194,(49,none)),(193150084564905277161032702922884055145,(50,none)),(294638124252382042544333637177036274725103173449535604170752108,(51,none)),(193150069116404596909970616944402104417,(52,none)),(196974838476779093412981580260986650722,(53,none)),(304129042605488322990068744979143733284422510809555337324,(54,none)),(272978887646966707182885868213451301048441816809587,(55,none)),(377498820317010900454794525625906909082357574977750335610316356386925,(56,none)),(331542465403814588215351485918370709819844480830292429529336155537517,(57,none)),(377498782014078654878691310613708094083419807840343869487272321679479,(58,none)),(468568715670404557146897808519463698648164716212903562974610350866148776296644707,(59,none)),(377498790853245549144617734560628247618996869716416003402270020010086,(60,none)),(269749261258157859074226191777156366564925276383586091118,(61,none)),(329994635798063025344026984035626254384775527254819015057801315,(62,none)),(338833776246315545623102435989201646447323513693829142768058467,(63,none)),(217321413830902322019843496174797005726744675,(64,none)),(296195255674491097637791075009419605820156947550976671843,(65,none)),(367651042605814031195464645524534488593308940724014361798599163969645,(66,none)),(306773647744077281189649368010004810733969564736942309475,(67,none)),(234366240313808150281289372965556385877393507,(68,none)),(338833789469322248700864665815131914582193594285324863861489771,(69,none)),(199114362955326672074801628381299,(70,none)),(282473749786127298693906450942179705085833627041887,(71,some 0)),(341780202235449427900762636692362479696444303856839127131226207,(72,none)),(272978887646966707182885868213476193002808513658975,(73,some 0)),(329994688690018625771434690160894495879506701298548578657763423,(74,none)),(294638105740205415681786039472884422251567166094195823062286431,(75,none)),(275352578679833965360152099474152694196167169015903,(76,none)),(522037988207904061729006992030642226178711673392017733671959608779118539385624851120223,(77,none)),(147708328345708,(78,none))]
noncomputable def pS:List (Nat×(Nat×Nat)):=[(214186193317094137487391912049775214659,(0,0)),(217321413830847393981133071780712633984614467,(1,3)),(215190838489056365283380492200041894708314188,(2,5)),(304129018868230706339097564531283198237042559997759782992,(3,7)),(173366846928235131871376027746387,(4,9)),(155609903487671483935817814,(5,11)),(192248380456521523338737398775884,(6,14)),(160414977564350545990,(7,16)),(141054554545016012871,(8,18)),(219923360231440087467606107618538487884,(9,20)),(199114379902908472812305808293971,(10,22)),(193150094863942193678355939259283996742,(11,24)),(199114387606369329041835304222796,(12,26)),(219923322468434658541569239295209046093,(13,28)),(338833781535535317686594464106065258876899738962881505502756944,(14,1000))]
noncomputable def iY:List (Nat×Str):=[(30,Str.ofString "turned_classes"),(31,Str.ofString "named_lookups"),(32,Str.ofString "made_by_ligature"),(33,Str.ofString "made_by"),(34,Str.ofString "follow_step"),(35,Str.ofString "follow_all"),(36,Str.ofString "closure_of"),(37,Str.ofString "closure"),(38,Str.ofString "begins_with"),(39,Str.ofString "live_rows"),(40,Str.ofString "pair_told"),(41,Str.ofString "moves_second"),(42,Str.ofString "turned_row"),(43,Str.ofString "turned_keys"),(44,Str.ofString "cut_single"),(45,Str.ofString "cut_ligature"),(46,Str.ofString "cut_pair"),(47,Str.ofString "cut_substitution"),(48,Str.ofString "cut_position"),(49,Str.ofString "renumbered"),(50,Str.ofString "is_idle"),(51,Str.ofString "layout_told"),(52,Str.ofString "advance"),(53,Str.ofString "bearing"),(54,Str.ofString "lone_pairs"),(55,Str.ofString "side_rows"),(56,Str.ofString "mirror_pairs"),(57,Str.ofString "mirror_table"),(58,Str.ofString "wanted_codes"),(59,Str.ofString "cut_variations"),(60,Str.ofString "first_glyphs"),(61,Str.ofString "numbers_of"),(62,Str.ofString "cut_charmap"),(63,Str.ofString "cut_metrics"),(64,Str.ofString "cut_gdef"),(65,Str.ofString "cut_lookup"),(66,Str.ofString "moved_lookup"),(67,Str.ofString "cut_layout"),(68,Str.ofString "cut_kern"),(69,Str.ofString "kept_glyphs"),(70,Str.ofString "subset"),(71,Str.ofString "_law_draw"),(72,Str.ofString "_law_layout"),(73,Str.ofString "_law_rows"),(74,Str.ofString "_law_lookup"),(75,Str.ofString "_law_closed"),(76,Str.ofString "_law_left"),(77,Str.ofString "_law_gsub_holds"),(78,Str.ofString "law")]
noncomputable def jO:List (Nat×Str):=[(0,Str.ofString "CharMap"),(1,Str.ofString "ClassDef"),(2,Str.ofString "Ligature"),(3,Str.ofString "PairGlyphs"),(4,Str.ofString "Single"),(5,Str.ofString "Value"),(6,Str.ofString "Lookup"),(7,Str.ofString "Font"),(8,Str.ofString "Gdef"),(9,Str.ofString "LangSys"),(10,Str.ofString "Script"),(11,Str.ofString "Feature"),(12,Str.ofString "Layout"),(13,Str.ofString "Metrics"),(14,Str.ofString "PairClasses")]
noncomputable def dy {α:Type}:List (Nat×α)→Nat→Option α
 | [],_=>none
 | (c,i)::r,n=>match Nat.beq c n with | true=>some i | false=>dy r n
theorem dR {α:Type} {l:List (Nat×α)} {n:Nat} {x:α} (h:dy l n=some x):(n,x)∈l:=by
 induction l with
 | nil=>exact nn h
 | cons p l ih=>
  replace h:(match Nat.beq p.1 n with | true=>some p.2 | false=>dy l n)=some x:=h
  cases e:Nat.beq p.1 n with
  | true=>rw [e] at h;rw [← az h,← Nat.eq_of_beq_eq_true e];exact .head _
  | false=>rw [e] at h;exact .tail _ (ih h)
noncomputable def rT (x:Str):Option T:=if x="BLANK" then some (.int 32) else if x="USE_SET" then some (.int 16) else if x="CONTEXT_KINDS" then some (.tup [.str 61,.str 62]) else none
noncomputable def v8:List (Nat×List (Nat×Nat)):=[(0,[(7,1),(5,2)]),(1,[(5,4)]),(2,[(5,6)]),(3,[(5,8)]),(4,[(5,10)]),(5,[(5,12),(71,13)]),(6,[(5,15)]),(7,[(5,17)]),(8,[(5,19)]),(9,[(5,21)]),(10,[(5,23)]),(11,[(5,25)]),(12,[(5,27)]),(13,[(5,29)])]
noncomputable def mt:Hu:=fun c m=>(dy v8 c).bind fun l=>dy l m
noncomputable def tb:OE:={
 id:=Lr
 fn:=fun x=>(dy rQ (li x.cps.toList)).bind fun p=>if dy iY p.1=some x then some p else none
 fresh:=fun x=>x="lone_pairs"
 cls:=fun x=>(dy pS (li x.cps.toList)).bind fun p=>if dy jO p.1=some x then some p else none
 glob:=rT
 mt:=mt }
noncomputable def qq:SS:=
  (ai (aF 0 1 (nG [2] (.v 1) (.one 2) (bB (aD .NotEq (aZ (.v 1) (ae 2)) (.e (ah (.int 0)))) aI) (ae 2) (aZ (.v 1) (ae 2))))
  (ai (aF 0 3 (ae 3))
  aj))
noncomputable def gA:aG:=⟨[0,1,3],some 0,[.none],[],false,qq⟩
noncomputable def pr:SS:=
  (ai (aR (Au .get (.e (aq (.v 0) 1)) (aa (ae 2) (aa (ah (.int 0)) ak))))
  aj)
noncomputable def i6:aG:=⟨[0,2],none,[],[],false,pr⟩
noncomputable def qd:SS:=
  (ai (ay 4 (bW .tuple (.e (aE [2] (.e (bW .sorted (.e (aq (.v 0) 1)))) (.one 2) aI (aO (aa (ae 2) (aa (aZ (.e (aq (.v 0) 1)) (ae 2)) ak)))))))
  (ai (aR (aO (aa (ae 4) (aa (iW (aD .Is (aq (.v 0) 3) (.e (ah .none))) (ah .none) (cv mt (aq (.v 0) 3) 5 ak)) ak))))
  aj))
noncomputable def jW:aG:=⟨[0],none,[],[4],false,qd⟩
noncomputable def pj:SS:=
  (ai (aF 0 6 (ae 6))
  aj)
noncomputable def ja:aG:=⟨[0,6],some 0,[],[],false,pj⟩
noncomputable def pf:SS:=
  (ai (aR (bW .tuple (.e (aE [7] (.e (bW .sorted (.e (aq (.v 0) 6)))) (.one 7) aI (aO (aa (ae 7) (aa (aZ (.e (aq (.v 0) 6)) (ae 7)) ak)))))))
  aj)
noncomputable def jc:aG:=⟨[0],none,[],[],false,pf⟩
noncomputable def pq:SS:=
  (ai (aF 0 8 (ae 8))
  aj)
noncomputable def i9:aG:=⟨[0,8],some 0,[],[],false,pq⟩
noncomputable def o9:SS:=
  (ai (ay 4 (aE [9] (.e (bW .sorted (.e (aq (.v 0) 8)))) (.one 9) aI (aO (aa (ae 9) (aa (bW .tuple (.e (bW .sorted (.e (aK 39 (aa (aZ (.e (aq (.v 0) 8)) (ae 9)) ak) none))))) ak)))))
  (ai (aR (bW .tuple (.e (aE [10] (.v 4) (.one 10) (bB (aD .NotEq (aZ (.v 10) (ah (.int 1))) (.e (aO ak))) aI) (ae 10)))))
  aj))
noncomputable def i7:aG:=⟨[0],none,[],[4],false,o9⟩
noncomputable def mR:SS:=
  (ai (aF 0 11 (ae 11))
  (ai (aF 0 12 (OY (ae 12) (aK 41 (aa (Au .values (.e (ae 11)) ak) ak) none)))
  aj))
noncomputable def eP:aG:=⟨[0,11,12],some 0,[(.bool false)],[],false,mR⟩
noncomputable def mL:SS:=
  (ai (ay 4 (bW .tuple (.e (aE [13] (.e (bW .sorted (.e (aq (.v 0) 11)))) (.one 13) aI (aO (aa (ae 13) (aa (aK 40 (aa (aZ (.e (aq (.v 0) 11)) (ae 13)) ak) none) ak)))))))
  (ai (aR (aO (aa (ah (.str 14)) (aa (aq (.v 0) 12) (aa (ae 4) ak)))))
  aj))
noncomputable def g5:aG:=⟨[0],none,[],[4],false,mL⟩
noncomputable def sO:SS:=
  (ai (aF 0 15 (ae 15))
  aj)
noncomputable def kK:aG:=⟨[0,15],some 0,[],[],false,sO⟩
noncomputable def tt:SS:=
  (ai (aR (cy .Add (aO (aa (ah (.str 16)) ak)) (bW .tuple (.e (aE [7] (.e (bW .sorted (.e (aq (.v 0) 15)))) (.one 7) aI (aO (aa (ae 7) (aa (aZ (.e (aq (.v 0) 15)) (ae 7)) ak))))))))
  aj)
noncomputable def kM:aG:=⟨[0],none,[],[],false,tt⟩
noncomputable def uG:SS:=
  (ai (aF 0 17 (ae 17))
  (ai (aF 0 18 (ae 18))
  (ai (aF 0 19 (ae 19))
  (ai (aF 0 20 (ae 20))
  aj))))
noncomputable def l9:aG:=⟨[0,17,18,19,20],some 0,[],[],false,uG⟩
noncomputable def vc:SS:=
  (ai (aR (aO (aa (aq (.v 0) 17) (aa (aq (.v 0) 18) (aa (aq (.v 0) 19) (aa (aq (.v 0) 20) ak))))))
  aj)
noncomputable def mx:aG:=⟨[0],none,[],[],false,vc⟩
noncomputable def lE:SS:=
  (ai (aR (gF .Eq (cv mt (ae 0) 5 ak) (.e (aO (aa (ah (.int 0)) (aa (ah (.int 0)) (aa (ah (.int 0)) (aa (ah (.int 0)) ak))))))))
  aj)
noncomputable def gO:aG:=⟨[0],none,[],[],false,lE⟩
noncomputable def sC:SS:=
  (ai (aF 0 21 (ae 21))
  (ai (aF 0 22 (ae 22))
  (ai (aF 0 23 (ae 23))
  (ai (aF 0 24 (ae 24))
  aj))))
noncomputable def k7:aG:=⟨[0,21,22,23,24],some 0,[],[],false,sC⟩
noncomputable def tx:SS:=
  (ai (ay 25 (iW (cQ (.e (cy .BitAnd (aq (.v 0) 22) (ah (.int 16))))) (aq (.v 0) 23) (sR (ah (.int 1)))))
  (ai (aR (aO (aa (aq (.v 0) 21) (aa (aq (.v 0) 22) (aa (ae 25) (aa (bW .tuple (.e (aE [26] (.e (aq (.v 0) 24)) (.one 26) aI (cv mt (ae 26) 5 ak)))) ak))))))
  aj))
noncomputable def kZ:aG:=⟨[0],none,[],[25],false,tx⟩
noncomputable def wl:SS:=
  (ai (aF 0 27 (ae 27))
  (ai (aF 0 28 (ae 28))
  (ai (aF 0 29 (ae 29))
  (ai (aF 0 30 (ae 30))
  (ai (aF 0 31 (ae 31))
  (ai (aF 0 32 (ae 32))
  aj))))))
noncomputable def oR:aG:=⟨[0,27,28,29,30,31,32],some 0,[],[],false,wl⟩
noncomputable def xm:SS:=
  (ai (aR (aO (aa (cv mt (aq (.v 0) 27) 5 ak) (aa (cv mt (aq (.v 0) 28) 5 ak) (aa (cv mt (aq (.v 0) 29) 5 ak) (aa (aK 51 (aa (aq (.v 0) 30) ak) none) (aa (aK 51 (aa (aq (.v 0) 31) ak) none) (aa (bW .tuple (.e (aE [33] (.e (bW .sorted (.e (aq (.v 0) 32)))) (.one 33) aI (aO (aa (ae 33) (aa (aZ (.e (aq (.v 0) 32)) (ae 33)) ak)))))) ak))))))))
  aj)
noncomputable def oV:aG:=⟨[0],none,[],[],false,xm⟩
noncomputable def xa:SS:=
  (ai (aF 0 6 (ae 6))
  (ai (aF 0 34 (ae 34))
  (ai (aF 0 8 (ae 8))
  (ai (aF 0 35 (iW (aD .Is (ae 35) (.e (ah .none))) dP (ae 35)))
  (ai (aF 0 36 (iW (aD .Is (ae 36) (.e (ah .none))) dP (ae 36)))
  aj)))))
noncomputable def j0:aG:=⟨[0,6,34,8,35,36],some 0,[.none,.none],[],false,xa⟩
noncomputable def wi:SS:=
  (ai (ay 35 (bW .tuple (.e (aE [7] (.e (bW .sorted (.e (aq (.v 0) 35)))) (.one 7) aI (aO (aa (ae 7) (aa (aZ (.e (aq (.v 0) 35)) (ae 7)) ak)))))))
  (ai (ay 36 (bW .tuple (.e (aE [7] (.e (bW .sorted (.e (aq (.v 0) 36)))) (.one 7) aI (aO (aa (ae 7) (aa (aZ (.e (aq (.v 0) 36)) (ae 7)) ak)))))))
  (ai (aR (aO (aa (cv mt (aq (.v 0) 6) 5 ak) (aa (cv mt (aq (.v 0) 34) 5 ak) (aa (bW .tuple (.e (aE [37] (.e (aq (.v 0) 8)) (.one 37) aI (cv mt (ae 37) 5 ak)))) (aa (ae 35) (aa (ae 36) ak)))))))
  aj)))
noncomputable def oy:aG:=⟨[0],none,[],[35,36],false,wi⟩
noncomputable def q9:SS:=
  (ai (aF 0 38 (ae 38))
  (ai (aF 0 39 (bW .list (.v 39)))
  aj))
noncomputable def jr:aG:=⟨[0,38,39],some 0,[],[],false,q9⟩
noncomputable def qQ:SS:=
  (ai (aR (aO (aa (aq (.v 0) 38) (aa (bW .tuple (.e (aq (.v 0) 39))) ak))))
  aj)
noncomputable def jG:aG:=⟨[0],none,[],[],false,qQ⟩
noncomputable def sP:SS:=
  (ai (aF 0 40 (ae 40))
  (ai (aF 0 41 (ae 41))
  (ai (aF 0 42 (ae 42))
  aj)))
noncomputable def k6:aG:=⟨[0,40,41,42],some 0,[],[],false,sP⟩
noncomputable def tm:SS:=
  (ai (ay 43 (bW .tuple (.e (aE [40] (.e (bW .sorted (.e (aq (.v 0) 42)))) (.one 40) aI (aO (aa (ae 40) (aa (cv mt (aZ (.e (aq (.v 0) 42)) (ae 40)) 5 ak) ak)))))))
  (ai (aR (aO (aa (aq (.v 0) 40) (aa (iW (aD .Is (aq (.v 0) 41) (.e (ah .none))) (ah .none) (cv mt (aq (.v 0) 41) 5 ak)) (aa (ae 43) ak)))))
  aj))
noncomputable def kS:aG:=⟨[0],none,[],[43],false,tm⟩
noncomputable def rC:SS:=
  (ai (aF 0 40 (ae 40))
  (ai (aF 0 44 (bW .list (.v 44)))
  aj))
noncomputable def jA:aG:=⟨[0,40,44],some 0,[],[],false,rC⟩
noncomputable def rW:SS:=
  (ai (aR (aO (aa (aq (.v 0) 40) (aa (bW .tuple (.e (aq (.v 0) 44))) ak))))
  aj)
noncomputable def jT:aG:=⟨[0],none,[],[],false,rW⟩
noncomputable def sT:SS:=
  (ai (aF 0 45 (ae 45))
  (ai (aF 0 39 (ae 39))
  (ai (aF 0 44 (ae 44))
  aj)))
noncomputable def kO:aG:=⟨[0,45,39,44],some 0,[],[],false,sT⟩
noncomputable def sG:SS:=
  (ai (ay 45 (bW .tuple (.e (aE [40] (.e (bW .sorted (.e (aq (.v 0) 45)))) (.one 40) aI (cv mt (aZ (.e (aq (.v 0) 45)) (ae 40)) 5 ak)))))
  (ai (ay 39 (bW .tuple (.e (aE [46] (.e (aq (.v 0) 39)) (.one 46) aI (cv mt (ae 46) 5 ak)))))
  (ai (aR (aO (aa (ae 45) (aa (ae 39) (aa (bW .tuple (.e (aE [47] (.e (aq (.v 0) 44)) (.one 47) aI (cv mt (ae 47) 5 ak)))) ak)))))
  aj)))
noncomputable def kQ:aG:=⟨[0],none,[],[45,39],false,sG⟩
noncomputable def rI:SS:=
  (ai (aF 0 48 (ae 48))
  (ai (aF 0 49 (ae 49))
  (ai (aF 0 50 (ae 50))
  (ai (aF 0 51 (bW .tuple (.v 51)))
  (ai (aF 0 52 (bW .tuple (.v 52)))
  aj)))))
noncomputable def jn:aG:=⟨[0,48,49,50,51,52],some 0,[],[],false,rI⟩
noncomputable def qu:SS:=
  (ai (aR (aO (aa (aq (.v 0) 48) (aa (aq (.v 0) 49) (aa (aq (.v 0) 50) (aa (aq (.v 0) 51) (aa (aq (.v 0) 52) ak)))))))
  aj)
noncomputable def j1:aG:=⟨[0],none,[],[],false,qu⟩
noncomputable def ny:SS:=
  (ai (aR (dF 1 3 (aa (nG [7] (.e (bW .sorted (.e (aq (.v 53) 6)))) (.one 7) (bB (aD .In (ae 7) (.v 26)) aI) (aZ (.v 26) (ae 7)) (aZ (.e (aq (.v 53) 6)) (ae 7))) ak)))
  aj)
noncomputable def iB:aG:=⟨[53,26],none,[],[],false,ny⟩
noncomputable def o6:SS:=
  (ai (ii 54 dP)
  (ai (fP (.e (aq (.v 55) 39)) (.one 46) (ai (fP (.e (aq (.v 46) 44)) (.one 56) (ai (fu (m5 .LtE .Lt (ah (.int 0)) (ae 56) (bW .len (.e (aq (.v 55) 44)))) (ai (bF 54 (ae 56) (ah (.bool true)))
  aj) aj)
  aj))
  aj))
  (ai (aR (bW .sorted (.v 54)))
  aj)))
noncomputable def i3:aG:=⟨[55],none,[],[54,46,56],false,o6⟩
noncomputable def lK:SS:=
  (ai (aR (aE [43,57] (.e (Au .get (.e (aq (.v 26) 8)) (aa (ae 7) (aa (bM ak) ak)))) (.many [43,57]) (bB (cQ (.e (bW .all (.e (aE [58] (.v 43) (.one 58) aI (gF .In (ae 58) (.v 25))))))) aI) (ae 57)))
  aj)
noncomputable def gz:aG:=⟨[26,7,25],some 25,[],[],false,lK⟩
noncomputable def AU:SS:=
  (ai (fu (aD .Eq (ae 21) (.e (ah (.str 57)))) (ai (aR (aK 32 (aa (ae 26) (aa (ae 7) ak)) (some 25)))
  aj) aj)
  (ai (fu (aD .NotIn (ae 7) (.e (aq (.v 26) 15))) (ai (aR (bM ak))
  aj) aj)
  (ai (fu (aD .Eq (ae 21) (.e (ah (.str 16)))) (ai (aR (bM (aa (aZ (.e (aq (.v 26) 15)) (ae 7)) ak)))
  aj) aj)
  (ai (fu (aD .Eq (ae 21) (.e (ah (.str 59)))) (ai (aR (iW (cQ (.e b6)) (bM (aa (aZ (.e (aq (.v 26) 15)) (ae 7)) ak)) (bM ak)))
  aj) aj)
  (ai (aR (bW .list (.e (aZ (.e (aq (.v 26) 15)) (ae 7)))))
  aj)))))
noncomputable def nh:aG:=⟨[21,26,7,25],some 25,[],[],false,AU⟩
noncomputable def sK:SS:=
  (ai (ii 60 (bM ak))
  (ai (fP (.v 14) (.one 7) (ai (fP (.e (aq (.v 47) 24)) (.one 26) (ai (fu (aD .In (aq (.v 47) 21) (.e (ah (.tup [.str 61,.str 62])))) (ai (ml 60 b6)
  aj) (ai (fP (.e (aK 33 (aa (aq (.v 47) 21) (aa (ae 26) (aa (ae 7) ak))) (some 25))) (.one 63) (ai (bF 25 (ae 63) (ah (.bool true)))
  aj))
  aj))
  aj))
  aj))
  (ai (aR (ae 60))
  aj)))
noncomputable def kT:aG:=⟨[47,14,25],some 25,[],[60,7,26,63],false,sK⟩
noncomputable def uu:SS:=
  (ai (ii 64 (aE [56] (.e (aK 31 (aa (ae 55) ak) none)) (.one 56) aI (aO (aa (ae 56) (aa (aO ak) ak)))))
  (ai (ii 65 dP)
  (ai (ay 66 (ah (.int 0)))
  (ai (rM (aD .Lt (ae 66) (.e (bW .len (.v 64)))) (ai (vH [56,67] (aZ (.v 64) (ae 66)))
  (ai (ay 66 (cy .Add (ae 66) (ah (.int 1))))
  (ai (ay 13 (cy .Add (aO (aa (ae 56) ak)) (ae 67)))
  (ai (fu (uy (aD .In (ae 13) (.v 65)) (uy (qD (m5 .LtE .Lt (ah (.int 0)) (ae 56) (bW .len (.e (aq (.v 55) 44))))) nP)) (ai Ey
  aj) aj)
  (ai (bF 65 (ae 13) (ah (.bool true)))
  (ai (ml 64 (aK 34 (aa (aZ (.e (aq (.v 55) 44)) (ae 56)) (aa (iW (cQ (.v 67)) (ae 67) (bW .tuple (.e (bW .sorted (.v 25))))) ak)) (some 25)))
  aj)))))))
  aj))))
noncomputable def l8:aG:=⟨[55,25],some 25,[],[56,64,65,66,67,13],false,uu⟩
noncomputable def vw:SS:=
  (ai (ii 25 (bW .dict (.e (aE [7] (.v 14) (.one 7) aI (aO (aa (ae 7) (aa (ah (.bool true)) ak)))))))
  (ai (ay 68 (sR (ah (.int 1))))
  (ai (rM (aD .Lt (ae 68) (.e (bW .len (.v 25)))) (ai (ay 68 (bW .len (.v 25)))
  (ai (Dy (aK 35 (aa (ae 55) ak) (some 25)))
  aj)))
  (ai (aR (bW .sorted (.v 25)))
  aj))))
noncomputable def mB:aG:=⟨[55,14],none,[],[25,68],false,vw⟩
noncomputable def Cy:SS:=
  (ai (fu (aD .Is (aq (.v 69) 30) (.e (ah .none))) (ai (aR (bW .sorted (.e (bW .dict (.e (aE [7] (.v 14) (.one 7) aI (aO (aa (ae 7) (aa (ah (.bool true)) ak)))))))))
  aj) aj)
  (ai (aR (aK 36 (aa (aq (.v 69) 30) (aa (ae 14) ak)) none))
  aj))
noncomputable def nE:aG:=⟨[69,14],none,[],[],false,Cy⟩
noncomputable def sS:SS:=
  (ai (aR (gF .Eq (vh (ae 14) (bW .len (.v 70))) (.v 70)))
  aj)
noncomputable def kW:aG:=⟨[14,70],none,[],[],false,sS⟩
noncomputable def wW:SS:=
  (ai (ii 54 (bM ak))
  (ai (fP (.v 4) (.many [43,57]) (ai (fu (aD .Eq (aE [70,58] (.v 54) (.many [70,58]) (bB (cQ (.e (aK 38 (aa (ae 43) (aa (ae 70) ak)) none))) aI) (ae 70)) (.e (bM ak))) (ai (kr 54 (aO (aa (ae 43) (aa (ae 57) ak))))
  aj) aj)
  aj))
  (ai (aR (ae 54))
  aj)))
noncomputable def ou:aG:=⟨[4],none,[],[54,43,57],false,wW⟩
noncomputable def w5:SS:=
  (ai (aR (aO (aa (cv mt (aZ (.v 33) (ah (.int 0))) 5 ak) (aa (cv mt (aZ (.v 33) (ah (.int 1))) 5 ak) ak))))
  aj)
noncomputable def ol:aG:=⟨[33],none,[],[],false,w5⟩
noncomputable def qb:SS:=
  (ai (aR (gF .NotEq (aE [33] (.v 11) (.one 33) (bB (qD (cQ (.e (cv mt (aZ (.v 33) (ah (.int 1))) 71 ak)))) aI) (ae 33)) (.e (bM ak))))
  aj)
noncomputable def jU:aG:=⟨[11],none,[],[],false,qb⟩
noncomputable def ut:SS:=
  (ai (fP (.v 14) (.one 7) (ai (fu (aD .NotIn (ae 7) (.v 72)) (ai (aR (ah .none))
  aj) aj)
  aj))
  (ai (aR (bW .tuple (.e (aE [7] (.v 14) (.one 7) aI (aZ (.v 72) (ae 7))))))
  aj))
noncomputable def mu:aG:=⟨[14,72],none,[],[7],false,ut⟩
noncomputable def sB:SS:=
  (ai (aR (nG [7] (.e (bW .sorted (.v 4))) (.one 7) (bB (aD .In (ae 7) (.v 72)) aI) (aZ (.v 72) (ae 7)) (aZ (.v 4) (ae 7))))
  aj)
noncomputable def kC:aG:=⟨[4,72],none,[],[],false,sB⟩
noncomputable def vm:SS:=
  (ai (ii 15 dP)
  (ai (fP (.e (bW .sorted (.e (aq (.v 26) 15)))) (.one 7) (ai (ay 10 (aK 42 (aa (aO (aa (ae 7) (aa (aZ (.e (aq (.v 26) 15)) (ae 7)) ak))) (aa (ae 72) ak)) none))
  (ai (fu (aD .IsNot (ae 10) (.e (ah .none))) (ai (bF 15 (aZ (.v 10) (ah (.int 0))) (aZ (.v 10) (ah (.int 1))))
  aj) aj)
  aj)))
  (ai (aR (dF 4 9 (aa (ae 15) ak)))
  aj)))
noncomputable def l7:aG:=⟨[26,72],none,[],[15,7,10],false,vm⟩
noncomputable def qt:SS:=
  (ai (ii 8 dP)
  (ai (fP (.e (bW .sorted (.e (aq (.v 26) 8)))) (.one 9) (ai (fP (.e (aZ (.e (aq (.v 26) 8)) (ae 9))) (.many [43,57]) (ai (ay 10 (aK 42 (aa (cy .Add (cy .Add (aO (aa (ae 9) ak)) (bW .tuple (.v 43))) (aO (aa (ae 57) ak))) (aa (ae 72) ak)) none))
  (ai (fu (aD .IsNot (ae 10) (.e (ah .none))) (ai (bF 8 (aZ (.v 10) (ah (.int 0))) (cy .Add (Au .get (.v 8) (aa (aZ (.v 10) (ah (.int 0))) (aa (bM ak) ak))) (bM (aa (aO (aa (JF (ae 10) (ah (.int 1)) (sR (ah (.int 1)))) (aa (aZ (.v 10) (sR (ah (.int 1)))) ak))) ak))))
  aj) aj)
  aj)))
  aj))
  (ai (aR (dF 2 5 (aa (ae 8) ak)))
  aj)))
noncomputable def jq:aG:=⟨[26,72],none,[],[8,9,43,57,10],false,qt⟩
noncomputable def y9:SS:=
  (ai (fu (cQ (.e (pX (ae 26) 14))) (ai (ay 73 b6)
  (ai (ay 74 (aK 30 (aa (aq (.v 26) 74) (aa (ae 72) ak)) none))
  (ai (aR b6)
  aj))) aj)
  (ai (ii 11 dP)
  (ai (fP (.e (bW .sorted (.e (aq (.v 26) 11)))) (.one 13) (ai (ay 10 (aK 42 (aa (ae 13) (aa (ae 72) ak)) none))
  (ai (fu (aD .IsNot (ae 10) (.e (ah .none))) (ai (bF 11 (ae 10) (aZ (.e (aq (.v 26) 11)) (ae 13)))
  aj) aj)
  aj)))
  (ai (aR (dF 3 7 (aa (ae 11) (aa (aq (.v 26) 12) ak))))
  aj))))
noncomputable def qZ:aG:=⟨[26,72],none,[],[73,74,11,13,10],false,y9⟩
noncomputable def lj:SS:=
  (ai (fu (aD .Eq (ae 21) (.e (ah (.str 16)))) (ai (aR (aK 44 (aa (ae 26) (aa (ae 72) ak)) none))
  aj) aj)
  (ai (fu (aD .Eq (ae 21) (.e (ah (.str 75)))) (ai (aR b6)
  aj) aj)
  (ai (fu (aD .Eq (ae 21) (.e (ah (.str 76)))) (ai (aR b6)
  aj) aj)
  (ai (fu (aD .Eq (ae 21) (.e (ah (.str 57)))) (ai (aR (aK 45 (aa (ae 26) (aa (ae 72) ak)) none))
  aj) aj)
  (ai (aR b6)
  aj)))))
noncomputable def eu:aG:=⟨[21,26,72],none,[],[],false,lj⟩
noncomputable def ru:SS:=
  (ai (fu (aD .Eq (ae 21) (.e (ah (.str 77)))) (ai (aR b6)
  aj) aj)
  (ai (fu (aD .Eq (ae 21) (.e (ah (.str 33)))) (ai (aR (aK 46 (aa (ae 26) (aa (ae 72) ak)) none))
  aj) aj)
  (ai (fu (aD .Eq (ae 21) (.e (ah (.str 78)))) (ai (aR b6)
  aj) aj)
  (ai (aR b6)
  aj))))
noncomputable def jg:aG:=⟨[21,26,72],none,[],[],false,ru⟩
noncomputable def uK:SS:=
  (ai (fu (uy (aD .Eq (ae 21) (.e (ah (.str 61)))) (uy (aD .Eq (ae 21) (.e (ah (.str 62)))) nP)) (ai (aR b6)
  aj) aj)
  (ai (fu (aD .In (ae 21) (.e (aO (aa (ah (.str 16)) (aa (ah (.str 75)) (aa (ah (.str 76)) (aa (ah (.str 57)) (aa (ah (.str 59)) ak)))))))) (ai (aR (aK 47 (aa (ae 21) (aa (ae 26) (aa (ae 72) ak))) none))
  aj) aj)
  (ai (aR (aK 48 (aa (ae 21) (aa (ae 26) (aa (ae 72) ak))) none))
  aj)))
noncomputable def gh:aG:=⟨[26,21,72],none,[],[],false,uK⟩
noncomputable def CC:SS:=
  (ai (fu (uy (aD .Eq (ae 21) (.e (ah (.str 61)))) (uy (aD .Eq (ae 21) (.e (ah (.str 62)))) nP)) (ai (aR (gF .Eq (bW .len (.e (cv mt (ae 26) 79 ak))) (.e (ah (.int 0)))))
  aj) aj)
  (ai (fu (aD .Eq (ae 21) (.e (ah (.str 57)))) (ai (aR (gF .Eq (bW .len (.e (aq (.v 26) 8))) (.e (ah (.int 0)))))
  aj) aj)
  (ai (fu (aD .Eq (ae 21) (.e (ah (.str 77)))) (ai (aR (gF .Eq (bW .len (.e (aq (.v 26) 80))) (.e (ah (.int 0)))))
  aj) aj)
  (ai (fu (aD .Eq (ae 21) (.e (ah (.str 33)))) (ai (aR (gF .Eq (bW .len (.e (iW (cQ (.e (pX (ae 26) 14))) (aq (.e (aq (.v 26) 73)) 14) (aq (.v 26) 11)))) (.e (ah (.int 0)))))
  aj) aj)
  (ai (fu (aD .Eq (ae 21) (.e (ah (.str 78)))) (ai (aR (gF .Eq (bW .len (.e (aq (.v 26) 81))) (.e (ah (.int 0)))))
  aj) aj)
  (ai (fu (aD .In (ae 21) (.e (aO (aa (ah (.str 82)) (aa (ah (.str 83)) (aa (ah (.str 84)) ak)))))) (ai (aR (OY (gF .Eq (bW .len (.e (aq (.v 26) 85))) (.e (ah (.int 0)))) (gF .Eq (bW .len (.e b6)) (.e (ah (.int 0))))))
  aj) aj)
  (ai (aR (gF .Eq (bW .len (.e (aq (.v 26) 15))) (.e (ah (.int 0)))))
  aj)))))))
noncomputable def kb:aG:=⟨[26,21],none,[],[],false,CC⟩
noncomputable def sE:SS:=
  (ai (aR (iW (aD .Is (ae 55) (.e (ah .none))) (ah .none) (cv mt (ae 55) 5 ak)))
  aj)
noncomputable def ie:aG:=⟨[55],none,[],[],false,sE⟩
noncomputable def BV:SS:=
  (ai (aR (iW (m5 .LtE .Lt (ah (.int 0)) (ae 7) (bW .len (.e (aq (.v 28) 51)))) (aZ (.e (aq (.v 28) 51)) (ae 7)) (ah (.int 0))))
  aj)
noncomputable def t4:aG:=⟨[28,7],none,[],[],false,BV⟩
noncomputable def AK:SS:=
  (ai (aR (iW (m5 .LtE .Lt (ah (.int 0)) (ae 7) (bW .len (.e (aq (.v 28) 52)))) (aZ (.e (aq (.v 28) 52)) (ae 7)) (ah (.int 0))))
  aj)
noncomputable def ue:aG:=⟨[28,7],none,[],[],false,AK⟩
noncomputable def uz:SS:=
  (ai (aR (bM (aa (aO (aa (ah (.int 60)) (aa (ah (.int 62)) ak))) (aa (aO (aa (ah (.int 91)) (aa (ah (.int 93)) ak))) (aa (aO (aa (ah (.int 123)) (aa (ah (.int 125)) ak))) (aa (aO (aa (ah (.int 171)) (aa (ah (.int 187)) ak))) (aa (aO (aa (ah (.int 8712)) (aa (ah (.int 8715)) ak))) (aa (aO (aa (ah (.int 8713)) (aa (ah (.int 8716)) ak))) (aa (aO (aa (ah (.int 8714)) (aa (ah (.int 8717)) ak))) (aa (aO (aa (ah (.int 65124)) (aa (ah (.int 65125)) ak))) (aa (aO (aa (ah (.int 65308)) (aa (ah (.int 65310)) ak))) (aa (aO (aa (ah (.int 65339)) (aa (ah (.int 65341)) ak))) (aa (aO (aa (ah (.int 65371)) (aa (ah (.int 65373)) ak))) (aa (aO (aa (ah (.int 10637)) (aa (ah (.int 10640)) ak))) ak))))))))))))))
  aj)
noncomputable def mo:aG:=⟨[],none,[],[],true,uz⟩
noncomputable def wz:SS:=
  (ai (aR (bM (aa (aO (aa (ah (.int 40)) (aa (ah (.int 1)) ak))) (aa (aO (aa (ah (.int 8249)) (aa (ah (.int 1)) ak))) (aa (aO (aa (ah (.int 8261)) (aa (ah (.int 1)) ak))) (aa (aO (aa (ah (.int 8317)) (aa (ah (.int 1)) ak))) (aa (aO (aa (ah (.int 8333)) (aa (ah (.int 1)) ak))) (aa (aO (aa (ah (.int 8804)) (aa (ah (.int 4)) ak))) (aa (aO (aa (ah (.int 8814)) (aa (ah (.int 14)) ak))) (aa (aO (aa (ah (.int 8842)) (aa (ah (.int 1)) ak))) (aa (aO (aa (ah (.int 8847)) (aa (ah (.int 2)) ak))) (aa (aO (aa (ah (.int 8866)) (aa (ah (.int 1)) ak))) (aa (aO (aa (ah (.int 8905)) (aa (ah (.int 2)) ak))) (aa (aO (aa (ah (.int 8912)) (aa (ah (.int 1)) ak))) (aa (aO (aa (ah (.int 8918)) (aa (ah (.int 1)) ak))) (aa (aO (aa (ah (.int 8920)) (aa (ah (.int 4)) ak))) (aa (aO (aa (ah (.int 8928)) (aa (ah (.int 7)) ak))) (aa (aO (aa (ah (.int 8968)) (aa (ah (.int 2)) ak))) (aa (aO (aa (ah (.int 9001)) (aa (ah (.int 1)) ak))) (aa (aO (aa (ah (.int 10088)) (aa (ah (.int 7)) ak))) (aa (aO (aa (ah (.int 10214)) (aa (ah (.int 5)) ak))) (aa (aO (aa (ah (.int 10627)) (aa (ah (.int 5)) ak))) (aa (aO (aa (ah (.int 12296)) (aa (ah (.int 5)) ak))) (aa (aO (aa (ah (.int 12308)) (aa (ah (.int 4)) ak))) (aa (aO (aa (ah (.int 65113)) (aa (ah (.int 3)) ak))) (aa (aO (aa (ah (.int 65288)) (aa (ah (.int 1)) ak))) (aa (aO (aa (ah (.int 65375)) (aa (ah (.int 1)) ak))) (aa (aO (aa (ah (.int 65378)) (aa (ah (.int 1)) ak))) (aa (aO (aa (ah (.int 8764)) (aa (ah (.int 1)) ak))) (aa (aO (aa (ah (.int 8786)) (aa (ah (.int 2)) ak))) (aa (aO (aa (ah (.int 8880)) (aa (ah (.int 4)) ak))) (aa (aO (aa (ah (.int 10638)) (aa (ah (.int 1)) ak))) (aa (aO (aa (ah (.int 10641)) (aa (ah (.int 4)) ak))) (aa (aO (aa (ah (.int 10712)) (aa (ah (.int 2)) ak))) (aa (aO (aa (ah (.int 10748)) (aa (ah (.int 1)) ak))) (aa (aO (aa (ah (.int 11810)) (aa (ah (.int 4)) ak))) ak))))))))))))))))))))))))))))))))))))
  aj)
noncomputable def oG:aG:=⟨[],none,[],[],false,wz⟩
noncomputable def qC:SS:=
  (ai (ii 54 (aK 54 ak none))
  (ai (fP (.e (aK 55 ak none)) (.many [9,86]) (ai (ml 54 (aE [87] (.e (bW .range (.v 86))) (.one 87) aI (aO (aa (cy .Add (ae 9) (cy .Mult (ah (.int 2)) (ae 87))) (aa (cy .Add (cy .Add (ae 9) (cy .Mult (ah (.int 2)) (ae 87))) (ah (.int 1))) ak)))))
  aj))
  (ai (aR (ae 54))
  aj)))
noncomputable def jy:aG:=⟨[],none,[],[54,9,86],false,qC⟩
noncomputable def rm:SS:=
  (ai (ii 26 dP)
  (ai (fP (.e (aK 56 ak none)) (.many [37,58]) (ai (bF 26 (ae 37) (ae 58))
  (ai (bF 26 (ae 58) (ae 37))
  aj)))
  (ai (aR (ae 26))
  aj)))
noncomputable def jC:aG:=⟨[],none,[],[26,37,58],false,rm⟩
noncomputable def q4:SS:=
  (ai (ii 54 (rH (ah (.int 32)) (ah (.bool true))))
  (ai (ay 88 (aK 57 ak none))
  (ai (fP (.v 1) (.one 2) (ai (bF 54 (ae 2) (ah (.bool true)))
  (ai (bF 54 (Au .get (.v 88) (aa (ae 2) (aa (ae 2) ak))) (ah (.bool true)))
  aj)))
  (ai (aR (ae 54))
  aj))))
noncomputable def jB:aG:=⟨[1],none,[],[54,88,2],false,q4⟩
noncomputable def nJ:SS:=
  (ai (fu (aD .Is (ae 3) (.e (ah .none))) (ai (aR (ah .none))
  aj) aj)
  (ai (ay 89 dP)
  (ai (fP (.e (bW .sorted (.e (aq (.v 3) 89)))) (.one 90) (ai (ay 10 (bW .tuple (.e (aE [2] (.e (aZ (.e (aq (.v 3) 89)) (ae 90))) (.one 2) (bB (aD .In (ae 2) (.v 1)) aI) (ae 2)))))
  (ai (fu (bB (aD .In (ae 90) (.v 1)) (bB (aD .NotEq (ae 10) (.e (aO ak))) aI)) (ai (bF 89 (ae 90) (ae 10))
  aj) aj)
  aj)))
  (ai (ay 91 dP)
  (ai (fP (.e (bW .sorted (.e (aq (.v 3) 91)))) (.many [90,2]) (ai (fu (bB (aD .In (ae 90) (.v 1)) (bB (aD .In (ae 2) (.v 1)) aI)) (ai (bF 91 (aO (aa (ae 90) (aa (ae 2) ak))) (aZ (.e (aq (.v 3) 91)) (aO (aa (ae 90) (aa (ae 2) ak)))))
  aj) aj)
  aj))
  (ai (aR b6)
  aj))))))
noncomputable def iz:aG:=⟨[3,1],none,[],[89,90,2,10,91],false,nJ⟩
noncomputable def rp:SS:=
  (ai (ii 54 (rH (ah (.int 0)) (ah (.bool true))))
  (ai (fP (.v 1) (.one 2) (ai (bF 54 (cv mt (ae 27) 7 (aa (ae 2) ak)) (ah (.bool true)))
  aj))
  (ai (ay 3 (aK 59 (aa (aq (.v 27) 3) (aa (ae 1) ak)) none))
  (ai (fu (aD .IsNot (ae 3) (.e (ah .none))) (ai (fP (.e (aq (.v 3) 91)) (.one 33) (ai (bF 54 (aZ (.e (aq (.v 3) 91)) (ae 33)) (ah (.bool true)))
  aj))
  aj) aj)
  (ai (aR (bW .sorted (.v 54)))
  aj)))))
noncomputable def jY:aG:=⟨[27,1],none,[],[54,2,3,33],false,rp⟩
noncomputable def vt:SS:=
  (ai (ii 54 dP)
  (ai (fP (.v 14) (.one 7) (ai (bF 54 (ae 7) (bW .len (.v 54)))
  aj))
  (ai (aR (ae 54))
  aj)))
noncomputable def mI:aG:=⟨[14],none,[],[54,7],false,vt⟩
noncomputable def sU:SS:=
  (ai (ay 92 (nG [2] (.e (bW .sorted (.v 1))) (.one 2) (bB (aD .NotEq (cv mt (ae 27) 7 (aa (ae 2) ak)) (.e (ah (.int 0)))) aI) (ae 2) (aZ (.v 72) (cv mt (ae 27) 7 (aa (ae 2) ak)))))
  (ai (ay 3 (aK 59 (aa (aq (.v 27) 3) (aa (ae 1) ak)) none))
  (ai (fu (aD .IsNot (ae 3) (.e (ah .none))) (ai (aF 3 91 (nG [33] (.e (bW .sorted (.e (aq (.v 3) 91)))) (.one 33) aI (ae 33) (aZ (.v 72) (aZ (.e (aq (.v 3) 91)) (ae 33)))))
  aj) aj)
  (ai (aR (dF 0 0 (aa (ae 92) (aa (ae 3) ak))))
  aj))))
noncomputable def kR:aG:=⟨[27,1,72],none,[],[92,3],false,sU⟩
noncomputable def sZ:SS:=
  (ai (ay 51 (aE [7] (.v 14) (.one 7) aI (aK 52 (aa (ae 28) (aa (ae 7) ak)) none)))
  (ai (aR (dF 13 28 (aa (aq (.v 28) 48) (aa (aq (.v 28) 49) (aa (aq (.v 28) 50) (aa (ae 51) (aa (aE [7] (.v 14) (.one 7) aI (aK 53 (aa (ae 28) (aa (ae 7) ak)) none)) ak)))))))
  aj))
noncomputable def kY:aG:=⟨[28,14],none,[],[51],false,sZ⟩
noncomputable def y0:SS:=
  (ai (ay 8 (aE [37] (.e (aq (.v 29) 8)) (.one 37) aI b6))
  (ai (ay 35 (aK 43 (aa (aq (.v 29) 35) (aa (ae 72) ak)) none))
  (ai (ay 36 (aK 43 (aa (aq (.v 29) 36) (aa (ae 72) ak)) none))
  (ai (aR (dF 8 18 (aa (aK 30 (aa (aq (.v 29) 6) (aa (ae 72) ak)) none) (aa (aK 30 (aa (aq (.v 29) 34) (aa (ae 72) ak)) none) (aa (ae 8) (aa (ae 35) (aa (ae 36) ak)))))))
  aj))))
noncomputable def q8:aG:=⟨[29,72],none,[],[8,35,36],false,y0⟩
noncomputable def uX:SS:=
  (ai (ay 24 (aE [26] (.e (aq (.v 47) 24)) (.one 26) aI (aK 49 (aa (ae 26) (aa (aq (.v 47) 21) (aa (ae 72) ak))) none)))
  (ai (aR (dF 6 14 (aa (aq (.v 47) 21) (aa (aq (.v 47) 22) (aa (aq (.v 47) 23) (aa (aE [26] (.v 24) (.one 26) (bB (qD (cQ (.e (aK 50 (aa (ae 26) (aa (aq (.v 47) 21) ak)) none)))) aI) (ae 26)) ak))))))
  aj))
noncomputable def lS:aG:=⟨[47,72],none,[],[24],false,uX⟩
noncomputable def rP:SS:=
  (ai (fu (bB (aD .NotEq (aq (.v 47) 21) (.e (ah (.str 61)))) (bB (aD .NotEq (aq (.v 47) 21) (.e (ah (.str 62)))) aI)) (ai (aR (ae 47))
  aj) aj)
  (ai (aR (dF 6 14 (aa (aq (.v 47) 21) (aa (aq (.v 47) 22) (aa (aq (.v 47) 23) (aa (aE [26] (.e (aq (.v 47) 24)) (.one 26) aI b6) ak))))))
  aj))
noncomputable def jM:aG:=⟨[47,93],none,[],[],false,rP⟩
noncomputable def vz:SS:=
  (ai (fu (aD .Is (ae 55) (.e (ah .none))) (ai (aR (ah .none))
  aj) aj)
  (ai (ay 44 (aE [47] (.e (aq (.v 55) 44)) (.one 47) aI (aK 65 (aa (ae 47) (aa (ae 72) ak)) none)))
  (ai (ay 93 (aK 61 (aa (aE [56] (.e (bW .range (.e (bW .len (.v 44))))) (.one 56) (bB (cQ (.e (aq (.e (aZ (.v 44) (ae 56))) 24))) aI) (ae 56)) ak) none))
  (ai (ii 39 (bM ak))
  (ai (fP (.e (aq (.v 55) 39)) (.one 46) (ai (kr 39 (dF 11 24 (aa (aq (.v 46) 40) (aa (aE [56] (.e (aq (.v 46) 44)) (.one 56) (bB (aD .In (ae 56) (.v 93)) aI) (aZ (.v 93) (ae 56))) ak))))
  aj))
  (ai (aR (dF 12 26 (aa (aq (.v 55) 45) (aa (ae 39) (aa (aE [56] (.v 93) (.one 56) aI (aK 66 (aa (aZ (.v 44) (ae 56)) (aa (ae 93) ak)) none)) ak)))))
  aj))))))
noncomputable def iK:aG:=⟨[55,72],none,[],[44,93,39,46],false,vz⟩
noncomputable def ye:SS:=
  (ai (ii 54 dP)
  (ai (fP (.e (bW .sorted (.v 32))) (.one 33) (ai (ay 10 (aK 42 (aa (ae 33) (aa (ae 72) ak)) none))
  (ai (fu (aD .IsNot (ae 10) (.e (ah .none))) (ai (bF 54 (ae 10) (aZ (.v 32) (ae 33)))
  aj) aj)
  aj)))
  (ai (aR (ae 54))
  aj)))
noncomputable def qe:aG:=⟨[32,72],none,[],[54,33,10],false,ye⟩
noncomputable def sH:SS:=
  (ai (aR (aK 37 (aa (ae 69) (aa (aK 60 (aa (aq (.v 69) 27) (aa (aK 58 (aa (ae 1) ak) none) ak)) none) ak)) none))
  aj)
noncomputable def k8:aG:=⟨[69,1],none,[],[],false,sH⟩
noncomputable def DG:SS:=
  (ai (ay 94 (aK 58 (aa (ae 1) ak) none))
  (ai (ay 14 (aK 69 (aa (ae 69) (aa (ae 1) ak)) none))
  (ai (ay 72 (aK 61 (aa (ae 14) ak) none))
  (ai (ay 27 (aK 62 (aa (aq (.v 69) 27) (aa (ae 94) (aa (ae 72) ak))) none))
  (ai (ay 29 (aK 64 (aa (aq (.v 69) 29) (aa (ae 72) ak)) none))
  (ai (ay 95 (aE [55] (.e (aO (aa (aq (.v 69) 30) (aa (aq (.v 69) 31) ak)))) (.one 55) aI (aK 67 (aa (ae 55) (aa (ae 72) ak)) none)))
  (ai (aR (dF 7 16 (aa (ae 27) (aa (aK 63 (aa (aq (.v 69) 28) (aa (ae 14) ak)) none) (aa (ae 29) (aa (aZ (.v 95) (ah (.int 0))) (aa (aZ (.v 95) (ah (.int 1))) (aa (aK 68 (aa (aq (.v 69) 32) (aa (ae 72) ak)) none) ak))))))))
  aj)))))))
noncomputable def xo:aG:=⟨[69,1],none,[],[94,14,72,27,29,95],false,DG⟩
noncomputable def yR:SS:=
  (ai (fu (aD .Gt (aZ (.v 96) (ah (.int 2))) (.e (ah (.int 0)))) (ai (ay 97 (cy .Mod (aZ (.v 96) (ah (.int 2))) (ae 98)))
  (ai (bF 96 (ah (.int 2)) (cy .FloorDiv (aZ (.v 96) (ah (.int 2))) (ae 98)))
  (ai (aR (ae 97))
  aj))) aj)
  (ai (ay 99 (aZ (.v 96) (ah (.int 1))))
  (ai (bF 96 (ah (.int 1)) (cy .Add (ae 99) (ah (.int 1))))
  (ai (ay 100 (iW (cQ (.e (aZ (.v 96) (ah (.int 0))))) (aZ (.e (aZ (.v 96) (ah (.int 0)))) (cy .Mod (ae 99) (bW .len (.e (aZ (.v 96) (ah (.int 0))))))) (ah (.int 0))))
  (ai (fu (bB (aD .Lt (ae 99) (.e (bW .len (.e (aZ (.v 96) (ah (.int 0))))))) (bB (aD .GtE (bW .abs (.v 100)) (.e (cy .Pow (ah (.int 10)) (ah (.int 18))))) aI)) (ai (ay 101 (cy .Sub (bW .abs (.v 100)) (cy .Pow (ah (.int 10)) (ah (.int 18)))))
  (ai (bF 96 (ah (.int 2)) (cy .FloorDiv (ae 101) (ae 98)))
  (ai (aR (cy .Mod (ae 101) (ae 98)))
  aj))) aj)
  (ai (ay 102 (cy .Mod (cy .Pow (cy .Add (cy .Add (cy .Mod (ae 100) (ah (.int 2147483629))) (cy .Mult (ah (.int 40503)) (ae 99))) (ah (.int 977))) (ah (.int 3))) (ah (.int 2147483587))))
  (ai (ay 102 (cy .Mod (cy .Pow (cy .Add (cy .Add (cy .Mult (ae 102) (cy .Add (cy .Mult (ah (.int 2)) (ae 99)) (ah (.int 5003)))) (cy .Mult (ae 99) (ae 99))) (ah (.int 11))) (ah (.int 3))) (ah (.int 2147483579))))
  (ai (aR (cy .Mod (cy .FloorDiv (ae 102) (ah (.int 64))) (ae 98)))
  aj))))))))
noncomputable def qB:aG:=⟨[96,98],some 96,[],[97,99,100,101,102],false,yR⟩
noncomputable def uQ:SS:=
  (ai (aR (dF 12 26 (aa (rH (ah (.str 103)) (dF 10 22 (aa (ah (.str 103)) (aa (dF 9 20 (aa (sR (ah (.int 1))) (aa (bM (aa (ah (.int 0)) ak)) ak))) (aa dP ak))))) (aa (bM (aa (dF 11 24 (aa (ae 40) (aa (ae 104) ak))) ak)) (aa (ae 44) ak)))))
  aj)
noncomputable def mf:aG:=⟨[40,104,44],none,[],[],false,uQ⟩
noncomputable def yY:SS:=
  (ai (ii 4 (bM ak))
  (ai (fP (.e (bW .range (.e (aK 71 (aa (ah (.int 5)) ak) (some 96))))) (.one 105) (ai (fu (aD .Eq (aK 71 (aa (ah (.int 2)) ak) (some 96)) (.e (ah (.int 0)))) (ai (kr 4 (aO (aa (ah (.str 16)) (aa (bW .dict (.e (aE [106] (.e (bW .range (.e (ah (.int 3))))) (.one 106) aI (aO (aa (aK 71 (aa (ah (.int 12)) ak) (some 96)) (aa (aK 71 (aa (ah (.int 12)) ak) (some 96)) ak)))))) ak))))
  aj) (ai (kr 4 (aO (aa (ah (.str 57)) (aa (aE [106] (.e (bW .range (.e (ah (.int 3))))) (.one 106) aI (aO (aa (aK 71 (aa (ah (.int 12)) ak) (some 96)) (aa (aK 71 (aa (ah (.int 12)) ak) (some 96)) (aa (aK 71 (aa (ah (.int 12)) ak) (some 96)) ak))))) ak))))
  aj))
  aj))
  (ai (aR (ae 4))
  aj)))
noncomputable def qk:aG:=⟨[96],some 96,[],[4,105],false,yY⟩
noncomputable def vV:SS:=
  (ai (fu (aD .Eq (aZ (.v 10) (ah (.int 0))) (.e (ah (.str 16)))) (ai (aR (dF 6 14 (aa (ah (.str 16)) (aa (ah (.int 0)) (aa (ah (.int 0)) (aa (bM (aa (dF 4 9 (aa (bW .dict (.e (aZ (.v 10) (ah (.int 1))))) ak)) ak)) ak))))))
  aj) aj)
  (ai (ii 8 dP)
  (ai (fP (.e (aZ (.v 10) (ah (.int 1)))) (.many [9,107,63]) (ai (bF 8 (ae 9) (cy .Add (Au .get (.v 8) (aa (ae 9) (aa (bM ak) ak))) (bM (aa (aO (aa (aO (aa (ae 107) ak)) (aa (ae 63) ak))) ak))))
  aj))
  (ai (aR (dF 6 14 (aa (ah (.str 57)) (aa (ah (.int 0)) (aa (ah (.int 0)) (aa (bM (aa (dF 2 5 (aa (ae 8) ak)) ak)) ak))))))
  aj))))
noncomputable def iN:aG:=⟨[10],none,[],[8,9,107,63],false,vV⟩
noncomputable def uq:SS:=
  (ai (ay 68 (sR (ah (.int 1))))
  (ai (rM (aD .Lt (ae 68) (.e (bW .len (.v 25)))) (ai (ay 68 (bW .len (.v 25)))
  (ai (fP (.v 4) (.many [21,108]) (ai (fu (aD .Eq (ae 21) (.e (ah (.str 16)))) (ai (ay 25 (cy .BitOr (ae 25) (bW .set (.e (aE [7] (.v 108) (.one 7) (bB (aD .In (ae 7) (.v 25)) aI) (aZ (.v 108) (ae 7)))))))
  aj) (ai (ay 25 (cy .BitOr (ae 25) (bW .set (.e (aE [9,107,63] (.v 108) (.many [9,107,63]) (bB (bB (aD .In (ae 9) (.v 25)) (bB (aD .In (ae 107) (.v 25)) aI)) aI) (ae 63))))))
  aj))
  aj))
  aj)))
  (ai (aR (bW .sorted (.v 25)))
  aj)))
noncomputable def mK:aG:=⟨[25,4],none,[],[68,21,108],false,uq⟩
noncomputable def xW:SS:=
  (ai (fu (aD .Eq (aZ (.v 10) (ah (.int 0))) (.e (ah (.str 16)))) (ai (aR (aO (aa (ah (.str 16)) (aa (bW .dict (.e (aE [7] (.e (aZ (.v 10) (ah (.int 1)))) (.one 7) (bB (bB (aD .In (ae 7) (.v 93)) (bB (aD .In (aZ (.e (aZ (.v 10) (ah (.int 1)))) (ae 7)) (.v 93)) aI)) aI) (aO (aa (aZ (.v 93) (ae 7)) (aa (aZ (.v 93) (aZ (.e (aZ (.v 10) (ah (.int 1)))) (ae 7))) ak)))))) ak))))
  aj) aj)
  (ai (ay 92 (aE [109] (.e (aZ (.v 10) (ah (.int 1)))) (.one 109) (bB (aD .Eq (aE [7] (.v 109) (.one 7) (bB (aD .NotIn (ae 7) (.v 93)) aI) (ae 7)) (.e (bM ak))) aI) (ae 109)))
  (ai (aR (aO (aa (ah (.str 57)) (aa (aE [109] (.v 92) (.one 109) aI (bW .tuple (.e (aE [7] (.v 109) (.one 7) aI (aZ (.v 93) (ae 7)))))) ak))))
  aj)))
noncomputable def lI:aG:=⟨[10,93],none,[],[92],false,xW⟩
noncomputable def nZ:SS:=
  (ai (ay 110 (aE [10] (.v 4) (.one 10) aI (aK 76 (aa (ae 10) (aa (ae 93) ak)) none)))
  (ai (ay 111 (aE [56] (.e (bW .range (.e (bW .len (.v 4))))) (.one 56) (bB (cQ (.e (aZ (.e (aZ (.v 110) (ae 56))) (ah (.int 1))))) aI) (ae 56)))
  (ai (ay 112 (aE [56] (.v 111) (.one 56) aI (cv mt (aK 74 (aa (aZ (.v 110) (ae 56)) ak) none) 5 ak)))
  (ai (fu (aD .NotEq (aE [47] (.e (aq (.v 113) 44)) (.one 47) aI (cv mt (ae 47) 5 ak)) (.v 112)) (ai (aR (ah (.bool false)))
  aj) aj)
  (ai (aR (K7 (gF .Eq (aq (.e (aZ (.e (aq (.v 113) 39)) (ah (.int 0)))) 44) (.e (aE [56] (.v 104) (.one 56) (bB (aD .In (ae 56) (.v 111)) aI) (Au .index (.v 111) (aa (ae 56) ak))))) (gF .Eq (aq (.e (aZ (.e (aq (.v 113) 39)) (ah (.int 0)))) 40) (.e (ah (.str 114))))))
  aj)))))
noncomputable def iu:aG:=⟨[113,4,104,93],none,[],[110,111,112],false,nZ⟩
noncomputable def N6:SS:=
  (ai (ii 96 (bM (aa (aE [100] (.e (vh (ae 115) (ah (.int 40)))) (.one 100) aI (bW .int (.v 100))) (aa (ah (.int 0)) (aa (ah (.int 0)) ak)))))
  (ai (ay 4 (aK 73 ak (some 96)))
  (ai (ay 104 (aE [56] (.e (bW .range (.e (bW .len (.v 4))))) (.one 56) (bB (aD .Eq (aK 71 (aa (ah (.int 2)) ak) (some 96)) (.e (ah (.int 1)))) aI) (ae 56)))
  (ai (ay 1 (bW .dict (.e (aE [2] (.e (bM (aa (ah (.int 32)) (aa (ah (.int 97)) (aa (ah (.int 98)) (aa (ah (.int 99)) (aa (ah (.int 100)) (aa (ah (.int 101)) ak)))))))) (.one 2) aI (aO (aa (ae 2) (aa (aK 71 (aa (ah (.int 12)) ak) (some 96)) ak)))))))
  (ai (ay 6 (bW .dict (.e (aE [105] (.e (bW .range (.e (ah (.int 4))))) (.one 105) aI (aO (aa (aK 71 (aa (ah (.int 12)) ak) (some 96)) (aa (cy .Add (ah (.int 1)) (aK 71 (aa (ah (.int 4)) ak) (some 96))) ak)))))))
  (ai (ay 32 (bW .dict (.e (aE [105] (.e (bW .range (.e (aK 71 (aa (ah (.int 5)) ak) (some 96))))) (.one 105) aI (aO (aa (aO (aa (aK 71 (aa (ah (.int 12)) ak) (some 96)) (aa (aK 71 (aa (ah (.int 12)) ak) (some 96)) ak))) (aa (cy .Add (ah (.int 3)) (ae 105)) ak)))))))
  (ai (ay 11 (bW .dict (.e (aE [105] (.e (bW .range (.e (ah (.int 3))))) (.one 105) aI (aO (aa (aO (aa (aK 71 (aa (ah (.int 12)) ak) (some 96)) (aa (aK 71 (aa (ah (.int 12)) ak) (some 96)) ak))) (aa (aO (aa (dF 5 11 (aa (ah (.int 0)) (aa (ah (.int 0)) (aa (cy .Add (ae 105) (ah (.int 1))) (aa (ah (.int 0)) ak))))) (aa (dF 5 11 (aa (ah (.int 0)) (aa (ah (.int 0)) (aa (ah (.int 0)) (aa (ah (.int 0)) ak))))) ak))) ak)))))))
  (ai (ay 30 (iW (cQ (.v 4)) (aK 72 (aa (ah (.str 114)) (aa (ae 104) (aa (aE [10] (.v 4) (.one 10) aI (aK 74 (aa (ae 10) ak) none)) ak))) none) (ah .none)))
  (ai (ay 31 (iW (aD .Eq (aK 71 (aa (ah (.int 2)) ak) (some 96)) (.e (ah (.int 1)))) (aK 72 (aa (ah (.str 32)) (aa (bM (aa (ah (.int 0)) ak)) (aa (bM (aa (dF 6 14 (aa (ah (.str 33)) (aa (ah (.int 0)) (aa (ah (.int 0)) (aa (bM (aa (dF 3 7 (aa (bW .dict (.v 11)) ak)) ak)) ak))))) ak)) ak))) none) (ah .none)))
  (ai (ay 28 (dF 13 28 (aa (ah (.int 1000)) (aa (ah (.int 700)) (aa (sR (ah (.int 200))) (aa (aE [7] (.e (bW .range (.e (ah (.int 12))))) (.one 7) aI (cy .Add (ah (.int 100)) (ae 7))) (aa (aE [7] (.e (bW .range (.e (ah (.int 12))))) (.one 7) aI (ae 7)) ak)))))))
  (ai (ay 69 (dF 7 16 (aa (dF 0 0 (aa (ae 1) ak)) (aa (ae 28) (aa (dF 8 18 (aa (dF 1 3 (aa (ae 6) ak)) (aa (dF 1 3 (aa dP ak)) (aa (bM ak) ak)))) (aa (ae 30) (aa (ae 31) (aa (ae 32) ak))))))))
  (ai (ay 116 (cv mt (ae 69) 5 ak))
  (ai (ay 117 (aE [2] (.e (bM (aa (ah (.int 97)) (aa (ah (.int 98)) (aa (ah (.int 99)) (aa (ah (.int 100)) (aa (ah (.int 101)) (aa (ah (.int 500)) ak)))))))) (.one 2) (bB (aD .Gt (aK 71 (aa (ah (.int 3)) ak) (some 96)) (.e (ah (.int 0)))) aI) (ae 2)))
  (ai (ay 67 (bW .set (.e (cy .Add (bM (aa (ah (.int 0)) ak)) (aE [2] (.e (cy .Add (ae 117) (bM (aa (ah (.int 32)) ak)))) (.one 2) aI (Au .get (.v 1) (aa (ae 2) (aa (ah (.int 0)) ak))))))))
  (ai (ay 112 (aK 75 (aa (ae 67) (aa (aE [56] (.v 104) (.one 56) aI (aZ (.v 4) (ae 56))) ak)) none))
  (ai (fu (aD .NotEq (aK 69 (aa (ae 69) (aa (ae 117) ak)) none) (.v 112)) (ai (aR (ah (.bool false)))
  aj) aj)
  (ai (ay 93 (bW .dict (.e (aE [7] (.v 112) (.one 7) aI (aO (aa (ae 7) (aa (Au .index (.v 112) (aa (ae 7) ak)) ak)))))))
  (ai (ay 113 (aK 70 (aa (ae 69) (aa (ae 117) ak)) none))
  (ai (fu (aD .NotEq (aq (.e (aq (.v 113) 27)) 1) (.e (bW .dict (.e (aE [2] (.e (cy .Add (ae 117) (bM (aa (ah (.int 32)) ak)))) (.one 2) (bB (aD .NotEq (Au .get (.v 1) (aa (ae 2) (aa (ah (.int 0)) ak))) (.e (ah (.int 0)))) aI) (aO (aa (ae 2) (aa (aZ (.v 93) (aZ (.v 1) (ae 2))) ak)))))))) (ai (aR (ah (.bool false)))
  aj) aj)
  (ai (fu (aD .NotEq (cv mt (aq (.v 113) 28) 5 ak) (.e (aO (aa (ah (.int 1000)) (aa (ah (.int 700)) (aa (sR (ah (.int 200))) (aa (bW .tuple (.e (aE [7] (.v 112) (.one 7) aI (cy .Add (ah (.int 100)) (ae 7))))) (aa (bW .tuple (.v 112)) ak)))))))) (ai (aR (ah (.bool false)))
  aj) aj)
  (ai (fu (aD .NotEq (aq (.e (aq (.e (aq (.v 113) 29)) 6)) 6) (.e (bW .dict (.e (aE [7] (.v 6) (.one 7) (bB (aD .In (ae 7) (.v 93)) aI) (aO (aa (aZ (.v 93) (ae 7)) (aa (aZ (.v 6) (ae 7)) ak)))))))) (ai (aR (ah (.bool false)))
  aj) aj)
  (ai (fu (aD .NotEq (aq (.v 113) 32) (.e (bW .dict (.e (aE [37,58] (.v 32) (.many [37,58]) (bB (bB (aD .In (ae 37) (.v 93)) (bB (aD .In (ae 58) (.v 93)) aI)) aI) (aO (aa (aO (aa (aZ (.v 93) (ae 37)) (aa (aZ (.v 93) (ae 58)) ak))) (aa (aZ (.v 32) (aO (aa (ae 37) (aa (ae 58) ak)))) ak)))))))) (ai (aR (ah (.bool false)))
  aj) aj)
  (ai (fu (uy (aD .NotEq (gF .Is (aq (.v 113) 30) (.e (ah .none))) (.e (gF .Is (ae 30) (.e (ah .none))))) (uy (aD .NotEq (gF .Is (aq (.v 113) 31) (.e (ah .none))) (.e (gF .Is (ae 31) (.e (ah .none))))) nP)) (ai (aR (ah (.bool false)))
  aj) aj)
  (ai (fu (bB (aD .IsNot (ae 30) (.e (ah .none))) (bB (qD (cQ (.e (aK 77 (aa (aq (.v 113) 30) (aa (ae 4) (aa (ae 104) (aa (ae 93) ak)))) none)))) aI)) (ai (aR (ah (.bool false)))
  aj) aj)
  (ai (fu (aD .IsNot (ae 31) (.e (ah .none))) (ai (ay 118 (bW .dict (.e (aE [37,58] (.v 11) (.many [37,58]) (bB (bB (aD .In (ae 37) (.v 93)) (bB (aD .In (ae 58) (.v 93)) aI)) aI) (aO (aa (aO (aa (aZ (.v 93) (ae 37)) (aa (aZ (.v 93) (ae 58)) ak))) (aa (aZ (.v 11) (aO (aa (ae 37) (aa (ae 58) ak)))) ak)))))))
  (ai (fu (aD .NotEq (aE [47] (.e (aq (.e (aq (.v 113) 31)) 44)) (.one 47) aI (cv mt (ae 47) 5 ak)) (.e (iW (cQ (.v 118)) (bM (aa (cv mt (dF 6 14 (aa (ah (.str 33)) (aa (ah (.int 0)) (aa (ah (.int 0)) (aa (bM (aa (dF 3 7 (aa (ae 118) ak)) ak)) ak))))) 5 ak) ak)) (bM ak)))) (ai (aR (ah (.bool false)))
  aj) aj)
  aj)) aj)
  (ai (aR (gF .Eq (cv mt (ae 69) 5 ak) (.v 116)))
  aj))))))))))))))))))))))))))
noncomputable def EX:aG:=⟨[115],none,[],[96,4,104,1,6,32,11,30,31,28,69,116,117,67,112,93,113,118],false,N6⟩
noncomputable def f0:Nat→Option aG:=fun n=>dy [(0,gA),(1,i6),(2,jW),(3,ja),(4,jc),(5,i9),(6,i7),(7,eP),(8,g5),(9,kK),(10,kM),(11,l9),(12,mx),(13,gO),(14,k7),(15,kZ),(16,oR),(17,oV),(18,j0),(19,oy),(20,jr),(21,jG),(22,k6),(23,kS),(24,jA),(25,jT),(26,kO),(27,kQ),(28,jn),(29,j1),(30,iB),(31,i3),(32,gz),(33,nh),(34,kT),(35,l8),(36,mB),(37,nE),(38,kW),(39,ou),(40,ol),(41,jU),(42,mu),(43,kC),(44,l7),(45,jq),(46,qZ),(47,eu),(48,jg),(49,gh),(50,kb),(51,ie),(52,t4),(53,ue),(54,mo),(55,oG),(56,jy),(57,jC),(58,jB),(59,iz),(60,jY),(61,mI),(62,kR),(63,kY),(64,q8),(65,lS),(66,jM),(67,iK),(68,qe),(69,k8),(70,xo),(71,qB),(72,mf),(73,qk),(74,iN),(75,mK),(76,lI),(77,iu),(78,EX)] n
end
section
structure jI (t:SetTable) (n:Nat):Prop where
 fits:t.fits n=true
 dum:t.dummies=#[]
 rise:t.place.toList.Pairwise (· < ·)
theorem jI.size {t:SetTable} {n:Nat} (h:jI t n):t.place.size=n:=by
 have:=h.fits;unfold SetTable.fits at this;simp at this;exact this.1
theorem Nw {l:List Nat} (h:l.Pairwise (· < ·)) {i j:Nat} (hij:i < j) (hj:j < l.length):l[i]'(Nat.lt_trans hij hj) < l[j]:=List.pairwise_iff_getElem.mp h i j (Nat.lt_trans hij hj) hj hij
structure HN (l:List Nat) (j k:Nat):Prop where
 le:k≤l.length
 lo:∀ a∈l.take k,a < j
 hi:∀ b∈l.drop k,j≤b
section
variable {l:List Nat} {i j k:Nat}
theorem HN.once (c:HN l j k) (d:HN l j i):¬ k < i:=fun h=>by
 have hk:=gB h d.le
 exact Nat.lt_irrefl _ (gB (d.lo l[k] (List.mem_of_getElem? ((List.getElem?_take_of_lt h).trans (cj hk)))) (c.hi l[k] (by rw [List.drop_eq_getElem_cons hk];exact .head _)))
theorem HN.same (c:HN l j k) (d:HN l j i):k=i:=Nat.le_antisymm (Nat.not_lt.mp (d.once c)) (Nat.not_lt.mp (c.once d))
theorem pZ (hr:l.Pairwise (· < ·)) (hi:i < l.length):(∀ a∈l.take i,a < l[i])∧∀ b∈l.drop (i+1),l[i] < b:=by
 have h:(l.take i++l[i]::l.drop (i+1)).Pairwise (· < ·):=by rw [← List.drop_eq_getElem_cons hi,List.take_append_drop];exact hr
 obtain ⟨_,h2,h3⟩:=List.pairwise_append.mp h
 exact ⟨fun a ha=>h3 a ha _ (.head _),(List.pairwise_cons.mp h2).1⟩
theorem zR (hr:l.Pairwise (· < ·)) (hi:i < l.length) (h:l[i] < j):∀ a∈l.take (i+1),a < j:=by
 rw [List.take_succ_eq_append_getElem hi]
 exact fun a ha=>(cH.mp ha).elim (fun ha=>Nat.lt_trans ((pZ hr hi).1 a ha) h) fun ha=>by rw [aV.mp ha];exact h
theorem G4 (hr:l.Pairwise (· < ·)) (hi:i < l.length) (h:j≤l[i]):∀ b∈l.drop i,j≤b:=by
 rw [List.drop_eq_getElem_cons hi]
 exact fun b hb=>(aU.mp hb).elim (fun e=>e▸h) fun hb=>aH h (Nat.le_of_lt ((pZ hr hi).2 b hb))
theorem K5 {lo hi f:Nat} (h:lo < hi) (hf:hi≤lo+(f+1)):(lo+hi) / 2 < hi∧hi≤(lo+hi) / 2+1+f∧lo≤(lo+hi) / 2∧(lo+hi) / 2≤lo+f:=
 have m1:(lo+hi) / 2 < hi:=Nat.div_lt_of_lt_mul (Nat.two_mul hi▸Nat.add_lt_add_right h hi)
 have m2:lo≤(lo+hi) / 2:=(Nat.le_div_iff_mul_le (Nat.zero_lt_succ 1)).mpr (Nat.mul_two lo▸Nat.add_le_add_left (Nat.le_of_lt h) lo)
 ⟨m1,aH hf (aH (Nat.add_le_add_right m2 _) (er (by rw [Nat.add_comm f 1,Nat.add_assoc]))),m2,Nat.le_of_lt_succ (gB m1 hf)⟩
theorem iP {α:Type} {xs:Array α} {i:Nat} (h:i < xs.size) (d:α):xs.getD i d=xs.toList[i]:=by unfold Array.getD;rw [dif_pos h];rfl
end
theorem Fb (xs:Array Nat) (j:Nat) (hr:xs.toList.Pairwise (· < ·)) (fuel:Nat):∀ lo hi,hi≤lo+fuel→lo≤hi→hi≤xs.size→(∀ a∈xs.toList.take lo,a < j)→(∀ b∈xs.toList.drop hi,j≤b)→HN xs.toList j (SetTable.below.go xs j fuel lo hi):=by
 induction fuel with
 | zero=>intro lo hi hf hl hh h1 h2;exact ⟨aH hl hh,h1,Nat.le_antisymm hl hf▸h2⟩
 | succ f ih=>
  intro lo hi hf hl hh h1 h2
  show HN _ _ (if lo < hi then (if xs.getD ((lo+hi) / 2) j < j then SetTable.below.go xs j f ((lo+hi) / 2+1) hi else SetTable.below.go xs j f lo ((lo+hi) / 2)) else lo)
  refine iteInduction (fun hlt=>?_) fun hlt=>⟨aH hl hh,h1,Nat.le_antisymm hl (Nat.not_lt.mp hlt)▸h2⟩
  obtain ⟨m1,m2,m3,m4⟩:=K5 hlt hf
  have hm:=gB m1 hh
  rw [iP hm]
  exact iteInduction (fun hc=>ih _ hi m2 m1 hh (zR hr hm hc) h2) fun hc=>ih lo _ m4 m3 (Nat.le_of_lt hm) h1 (G4 hr hm (Nat.not_lt.mp hc))
theorem se (xs:Array Nat) (j:Nat) (hr:xs.toList.Pairwise (· < ·)):HN xs.toList j (SetTable.below xs j):=
 Fb xs j hr xs.size 0 xs.size (er (Nat.zero_add _).symm) (ck _) (Nat.le_refl _) (fun _ h=>nomatch h) (fun b h=>absurd h (by rw [List.drop_of_length_le (er eX)];exact List.not_mem_nil))
theorem sF {xs:Array Nat} {j:Nat} (hr:xs.toList.Pairwise (· < ·)) (hn:xs.toList[SetTable.below xs j]?≠some j):(SetTable.insertAt xs (SetTable.below xs j) j).toList.Pairwise (· < ·):=by
 obtain ⟨h0,h1,h2⟩:=se xs j hr
 have h3:∀ b∈xs.toList.drop (SetTable.below xs j),j < b:=fun b hb=>Nat.lt_of_le_of_ne (h2 b hb) fun e=>by
  have hk:SetTable.below xs j < xs.toList.length:=Nat.lt_of_not_le fun h=>by rw [List.drop_eq_nil_of_le h] at hb;exact absurd hb List.not_mem_nil
  rw [List.drop_eq_getElem_cons hk] at hb h2
  rw [cj hk] at hn
  exact (aU.mp hb).elim (fun c=>hn (by rw [← c,← e])) fun hb=>Nat.not_lt.mpr (h2 _ (.head _)) (e▸(pZ hr hk).2 b hb)
 rw [SetTable.toList_insertAt,List.pairwise_append]
 exact ⟨hr.sublist (List.take_sublist _ _),List.pairwise_cons.mpr ⟨h3,hr.sublist (List.drop_sublist _ _)⟩,fun a ha b hb=>(aU.mp hb).elim (fun e=>e▸h1 a ha) fun hb=>Nat.lt_trans (h1 a ha) (h3 b hb)⟩
theorem iI (t:SetTable) (n:Nat):jI (t.standIn n) n:=
 ⟨SetTable.standIn_fits t n,rfl,by
  show (Array.range n).toList.Pairwise (· < ·)
  rw [Array.toList_range];exact List.pairwise_lt_range⟩
theorem vU {t:SetTable} {n:Nat} (hd:t.dummies=#[]) (hr:t.place.toList.Pairwise (· < ·)):jI (t.orStandIn n) n:=by
 unfold SetTable.orStandIn
 split
 ·exact ⟨by assumption,hd,hr⟩
 ·exact iI t n
theorem tK (j:Nat):SetTable.has #[] j=false:=rfl
theorem yc {t:SetTable} (hd:t.dummies=#[]) (j:Nat):(∃ i,t.slot j=.live i)∨t.slot j=.empty:=by
 unfold SetTable.slot
 rw [hd,tK]
 exact iteInduction (motive:=fun x=>(∃ i,x=SetTable.Slot.live i)∨x=.empty) (fun _=>.inl ⟨_,rfl⟩) fun _=>.inr rfl
theorem AZ (t:SetTable) (p:SetTable.Probe):(t.advance p).dummy=p.dummy:=by
 unfold SetTable.advance
 exact iteInduction (motive:=fun x=>SetTable.Probe.dummy x=p.dummy) (fun _=>rfl) fun _=>rfl
set_option smartUnfolding false in
theorem rE (t:SetTable) (hashAt:Nat→Int) (h:Int) (fuel:Nat) (p:SetTable.Probe):SetTable.probe.go t hashAt h (fuel+1) p =
  SetTable.Slot.rec (motive:=fun _=>Option SetTable.Met) (some (.empty p.j p.dummy)) (SetTable.probe.go t hashAt h fuel (t.advance { p with dummy:=some p.j })) (fun i=>if (hashAt i==h)=true then some (.candidate p.j i (t.advance p)) else SetTable.probe.go t hashAt h fuel (t.advance p)) (t.slot p.j):=rfl
theorem rq {t:SetTable} (hd:t.dummies=#[]) (hashAt:Nat→Int) (h:Int) (fuel:Nat):∀ p j dummy,p.dummy=none→SetTable.probe.go t hashAt h fuel p=some (.empty j dummy)→dummy=none∧t.slot j=.empty:=by
 induction fuel with
 | zero=>intro p j dummy hp e;exact nn e
 | succ fuel ih=>
  intro p j dummy hp e
  rcases yc hd p.j with ⟨i,hs⟩ | hs
  ·rw [rE,hs] at e
   replace e:(if (hashAt i==h)=true then some (.candidate p.j i (t.advance p)) else SetTable.probe.go t hashAt h fuel (t.advance p))=some (SetTable.Met.empty j dummy):=e
   by_cases c:(hashAt i==h)=true
   ·rw [au c] at e;exact nomatch e
   ·rw [av c] at e;exact ih _ j dummy ((AZ t p).trans hp) e
  ·rw [rE,hs] at e
   cases e
   exact ⟨hp,hs⟩
theorem xE {t:SetTable} (hd:t.dummies=#[]) {h:Int} {slot:Nat} {wd:Bool} (e:t.freeSlot h=some (slot,wd)):wd=false∧t.slot slot=.empty:=by
 unfold SetTable.freeSlot at e
 generalize hp:t.probe (fun _=>h+1) h (t.probeStart h)=o at e
 induction o with
 | none=>exact nn e
 | some m=>
  induction m with
  | empty j dummy=>
   obtain ⟨h1,h2⟩:=rq hd _ h _ (t.probeStart h) j dummy rfl hp
   rw [h1] at e
   obtain ⟨rfl,rfl⟩:=Prod.mk.inj (az e)
   exact ⟨rfl,h2⟩
  | _=>exact nn e
theorem KL {t:SetTable} (hd:t.dummies=#[]) (hr:t.place.toList.Pairwise (· < ·)) {j:Nat} (hs:t.slot j=.empty) :
  (t.put j).1.dummies=#[]∧(t.put j).1.place.toList.Pairwise (· < ·)∧(t.put j).1.led=t.led∧(t.put j).1.plain=t.plain:=by
 unfold SetTable.put
 dsimp only
 refine ⟨by rw [hd,tK];rfl,sF hr fun e=>?_,rfl,rfl⟩
 unfold SetTable.slot at hs
 dsimp only at hs
 rw [au (by rw [← Array.getElem?_toList,e];exact bm.mpr rfl)] at hs
 exact nomatch hs
theorem sW (t:SetTable) (n:Nat):(t.orStandIn n).led=t.led:=by unfold SetTable.orStandIn;split<;>rfl
theorem AG {t:SetTable} {n:Nat} (ht:jI t n) (es:Array (Int×Value)) (hn:es.size=n) (h:Int) (x:Value) :
  jI (layNew t es h x).2.1 (layNew t es h x).1.size∧(layNew t es h x).2.1.led=t.led∧(layNew t es h x).2.2.1=false:=by
 unfold layNew
 induction hf:t.freeSlot h with
 | none=>exact ⟨by simpa using iI t (es.size+1),rfl,rfl⟩
 | some q=>
  obtain ⟨slot,wd⟩:=q
  obtain ⟨rfl,hs⟩:=xE ht.dum hf
  obtain ⟨h1,h2,h3,_⟩:=KL ht.dum ht.rise hs
  exact ⟨vU h1 h2,(sW _ _).trans h3,rfl⟩
theorem jQ (n:Nat) (f:Nat→Option (Nat×Nat)) (hf:∀ j p,f j=some p→p.1=j):(((List.range n).filterMap f).map (·.1)).Pairwise (· < ·):=by
 rw [List.map_filterMap]
 have:(List.range n).filterMap (fun x=>Option.map (fun x:Nat×Nat=>x.fst) (f x))=(List.range n).filter fun j=>(f j).isSome:=by
  rw [← List.filterMap_eq_filter]
  congr 1
  funext j
  induction h:f j with
  | none=>simp [Option.guard,h]
  | some p=>simp [Option.guard,h,hf j p h]
 rw [this]
 exact List.pairwise_lt_range.sublist fM
theorem As {mask finger moves:Nat} {led plain:Bool} {hashes:Array Int} {t:SetTable} {order:Array Nat} (e:SetTable.laid mask finger moves led plain hashes=some (t,order)) :
  t.dummies=#[]∧t.place.toList.Pairwise (· < ·)∧t.led=led∧t.plain=plain∧t.place.size=order.size∧t.mask=mask:=by
 unfold SetTable.laid at e
 induction ho:SetTable.layClean mask hashes with
 | none=>rw [ho] at e;exact nomatch e
 | some owner=>
  rw [ho] at e
  cases e
  refine ⟨rfl,?_,rfl,rfl,by simp,rfl⟩
  refine jQ _ _ fun j p h=>?_
  induction q:owner.getD j none with
  | none=>rw [q] at h;exact nn h
  | some k=>rw [q] at h;obtain rfl:=az h;rfl
noncomputable def Eg (led:Bool) (t:SetTable):Prop:=t.dummies=#[]∧t.place.toList.Pairwise (· < ·)∧t.led=led
theorem oH (t:SetTable) (n:Nat):Eg t.led (t.standIn n):=⟨(iI t n).dum,(iI t n).rise,rfl⟩
theorem vn {t:SetTable} {es:Array (Int×Value)} {wanted:Nat}:Eg t.led (relayAll t es wanted).2.1:=by
 unfold relayAll
 induction ho:t.relaid (es.map (·.1)) wanted with
 | none=>exact oH t _
 | some q=>
  obtain ⟨h1,h2,h3,_⟩:=As ho
  exact iteInduction (motive:=fun x:Array (Int×Value)×SetTable×Bool=>Eg t.led x.2.1) (fun _=>⟨h1,h2,h3⟩) fun _=>oH t _
theorem on {t:SetTable} {es:Array (Int×Value)} {wanted:Nat}:jI (relayAll t es wanted).2.1 (relayAll t es wanted).1.size∧(relayAll t es wanted).2.1.led=t.led:=
 have h:=vn (t:=t) (es:=es) (wanted:=wanted)
 ⟨⟨relayAll_fits t es wanted,h.1,h.2.1⟩,h.2.2⟩
noncomputable def Fg (m:Nat):Nat→Nat→List Nat
 | 0,_=>[]
 | n+1,i=>i::Fg m n ((i*5+1) % (m+1))
theorem MK:∀ m∈[7,15,31],∀ i < m+1,∀ j < m+1,j∈Fg m (m+15) i:=by decide +kernel
theorem BZ (m i:Nat):i≤SetTable.runEnd m i:=iteInduction (motive:=(i≤·)) (fun _=>Nat.le_add_right _ _) fun _=>Nat.le_refl _
set_option smartUnfolding false in
theorem A3 (m:Nat) (owner:Array (Option Nat)) (fuel i pb:Nat):SetTable.layClean.free m owner (fuel+1) i pb =
  Option.rec (motive:=fun _=>Option Nat) (SetTable.layClean.free m owner fuel ((i*5+1+pb / 32) % (m+1)) (pb / 32)) (fun k=>some (i+k)) ((List.range (SetTable.runEnd m i+1 - i)).find? fun k=>(owner.getD (i+k) (some 0)).isNone):=rfl
theorem AN {m:Nat} {owner:Array (Option Nat)} (fuel:Nat):∀ i pb,pb < 32→∀ j∈Fg m fuel i,owner.getD j (some 0)=none→∃ r,SetTable.layClean.free m owner fuel i pb=some r∧owner.getD r (some 0)=none:=by
 induction fuel with
 | zero=>intro i pb hp j hj;exact absurd hj List.not_mem_nil
 | succ fuel ih=>
  intro i pb hp j hj hn
  rw [A3,Nat.div_eq_of_lt hp]
  induction hk:(List.range (SetTable.runEnd m i+1 - i)).find? fun k=>(owner.getD (i+k) (some 0)).isNone with
  | some k=>exact ⟨_,rfl,Option.isNone_iff_eq_none.mp (List.find?_some (p:=fun k=>(owner.getD (i+k) (some 0)).isNone) hk)⟩
  | none=>
   rcases aU.mp hj with rfl | hj
   ·exact absurd (by rw [Nat.add_zero,hn];rfl) (List.find?_eq_none.mp hk 0 (List.mem_range.mpr (Nat.sub_pos_of_lt (Nat.lt_succ_of_le (BZ m _)))))
   ·exact ih _ 0 (Nat.zero_lt_succ _) j hj hn
theorem mP (l:List (Option Nat)) (h:none∉l):(l.filterMap id).length=l.length:=by
 induction l with
 | nil=>rfl
 | cons x l ih=>induction x with
  | none=>exact absurd (.head _) h
  | some a=>exact aw (·+1) (ih fun hx=>h (.tail _ hx))
theorem oe (l:List (Option Nat)) (k:Nat):∀ j,l[j]? = some none→((l.set j (some k)).filterMap id).Perm (k::l.filterMap id):=by
 induction l with
 | nil=>intro j h;exact nn h
 | cons x l ih=>
  intro j h
  cases j with
  | zero=>cases az h;exact .refl _
  | succ j=>cases x with
   | none=>exact ih j h
   | some a=>exact ((ih j h).cons a).trans (.swap ..)
noncomputable def Ll (m:Nat) (acc:Option (Array (Option Nat)×Nat)) (h:Int):Option (Array (Option Nat)×Nat):=do
 let (owner,k) ← acc
 let j ← SetTable.layClean.free m owner (SetTable.turns m) (SetTable.bits h % (m+1)) (SetTable.bits h)
 pure (owner.setIfInBounds j (some k),k+1)
theorem O7 {owner:Array (Option Nat)} {m k:Nat} (hs:owner.size=m+1) (hp:(owner.toList.filterMap id).Perm (List.range k)) (hk:k≤m):∃ j,j < m+1∧owner.getD j (some 0)=none:=by
 have hm:none∈owner.toList:=Classical.byContradiction fun c=>by
  have:=hp.length_eq
  rw [mP _ c,eX,hs,ei] at this
  rw [← this] at hk;exact Nat.not_succ_le_self m hk
 obtain ⟨i,hi,hx⟩:=List.getElem_of_mem hm
 exact ⟨i,hs▸hi,(iP hi _).trans hx⟩
theorem BH {owner:Array (Option Nat)} {r:Nat} (h:owner.getD r (some 0)=none):owner.toList[r]? = some none:=by
 by_cases c:r < owner.size
 ·rw [iP c] at h;rw [cj c,h]
 ·unfold Array.getD at h;rw [dif_neg c] at h;exact nn h.symm
structure H9 (m:Nat) (x:Option (Array (Option Nat)×Nat)) (k:Nat):Prop where
 ex:∃ owner,x=some (owner,k)∧owner.size=m+1∧(owner.toList.filterMap id).Perm (List.range k)
theorem CE {m k:Nat} {x:Option (Array (Option Nat)×Nat)} {h:Int} (hm:m∈[7,15,31]) (hb:SetTable.bits h < 32) (hk:k < m) (L:H9 m x k):H9 m (Ll m x h) (k+1):=by
 obtain ⟨owner,rfl,hs,hp⟩:=L.ex
 obtain ⟨j,hj,hn⟩:=O7 hs hp (Nat.le_of_lt hk)
 obtain ⟨r,hr,hrn⟩:=AN (SetTable.turns m) (SetTable.bits h % (m+1)) (SetTable.bits h) hb j (MK m hm _ (Nat.mod_lt _ (Nat.zero_lt_succ _)) j hj) hn
 refine ⟨owner.setIfInBounds r (some k),?_,Array.size_setIfInBounds.trans hs,?_⟩
 ·show (SetTable.layClean.free m owner (SetTable.turns m) (SetTable.bits h % (m+1)) (SetTable.bits h)).bind _=_
  rw [hr];rfl
 ·rw [Array.toList_setIfInBounds,List.range_succ]
  exact (oe _ k r (BH hrn)).trans ((hp.cons k).trans (List.perm_append_singleton k _).symm)
theorem Ci {m:Nat} (hm:m∈[7,15,31]) (l:List Int) (hb:∀ h∈l,SetTable.bits h < 32):∀ x k,k+l.length≤m→H9 m x k→H9 m (l.foldl (Ll m) x) (k+l.length):=by
 induction l with
 | nil=>intro x k _ L;exact L
 | cons h l ih=>
  intro x k hl L
  rw [eF,← Nat.succ_add_eq_add_succ] at hl ⊢
  exact ih (fun y hy=>hb y (.tail _ hy)) _ _ hl (CE hm (hb h (.head _)) (gB (Nat.lt_succ_self k) (aH (Nat.le_add_right _ _) hl)) L)
theorem qs (n:Nat):((Array.replicate n (none:Option Nat)).toList.filterMap id)=[]:=by
 rw [Array.toList_replicate,List.filterMap_eq_nil_iff]
 intro a ha;rw [(List.mem_replicate.mp ha).2];rfl
theorem yy (l:List (Option Nat)):(List.range l.length).filterMap (fun j=>(l[j]?).getD none)=l.filterMap id:=by
 induction l with
 | nil=>rfl
 | cons a t ih=>
  rw [eF,List.range_succ_eq_map,List.filterMap_cons,List.filterMap_map]
  have e:((fun j=>((a::t)[j]?).getD none) ∘ Nat.succ)=fun j=>(t[j]?).getD none:=by funext i;simp
  rw [e,ih]
  induction a<;>rfl
theorem BN {m finger moves:Nat} {led plain:Bool} {hashes:Array Int} (hm:m∈[7,15,31]) (hb:∀ h∈hashes.toList,SetTable.bits h < 32) (hl:hashes.size≤m) :
  ∃ t order,SetTable.laid m finger moves led plain hashes=some (t,order)∧order.toList.Perm (List.range hashes.size):=by
 obtain ⟨o,e1,e2,e3⟩:=(Ci hm hashes.toList hb (some (Array.replicate (m+1) none,0)) 0 (by rw [Nat.zero_add];exact hl) ⟨_,rfl,Array.size_replicate,by rw [qs];exact .refl _⟩).ex
 rw [Nat.zero_add] at e1 e3
 have hc:SetTable.layClean m hashes=some o:=by
  unfold SetTable.layClean
  rw [← Array.foldl_toList]
  show (List.foldl (Ll m) _ hashes.toList).map (·.1)=_
  rw [e1];rfl
 unfold SetTable.laid
 rw [hc]
 refine ⟨_,_,rfl,?_⟩
 dsimp only
 rw [List.map_filterMap]
 have e:(fun x=>Option.map (fun x:Nat×Nat=>x.snd) (Option.map (fun x_1=>(x,x_1)) (o.getD x none)))=fun j=>(o.toList[j]?).getD none:=by
  funext x
  rw [Option.map_map,Array.getElem?_toList]
  have:o.getD x none=(o[x]?).getD none:=by simp
  rw [this]
  cases (o[x]?).getD none<;>rfl
 rw [e]
 have hz:m+1=o.toList.length:=by rw [eX,e2]
 rw [hz,yy]
 exact e3
end
end Nz
namespace Nz
open PySem PyProof.Rows PySem.W
section
theorem bD {α:Type} {M:Model} {A:Around} {E:Value→Shared→Prop} {s:Shared} {c:Prop} [Decidable c] {a b:Sem α} {Q:α→Shared→Prop} (h:¬ c) (k:wpAny M A b Q E s):wpAny M A (if c then a else b) Q E s:=by rw [av h];exact k
theorem lm {α:Type} {M:Model} {A:Around} {E:Value→Shared→Prop} {s:Shared} {c:Prop} [Decidable c] {a b:Sem α} {Q:α→Shared→Prop} (h:c) (k:wpAny M A a Q E s):wpAny M A (if c then a else b) Q E s:=by rw [au h];exact k
noncomputable abbrev aL (es:List DictEntry) (ep:Nat):Obj:=⟨.type "dict",none,.dict es.toArray ep,#[]⟩
noncomputable abbrev cN (es:Array (Int×Value)) (ep:Nat) (t:SetTable):Obj:=⟨.type "set",none,.set es ep t,#[]⟩
structure Wd where
 prog:Program
 w:World
 ca:Nat→Addr
 fa:Nat→Addr
 h0:Heap
 F0:Addr→Prop
 g:Addr
 b:Addr
 mg:Str→Option Value
 mb:Str→Option Value
 K:Frag
 src:Nat→Option (Arguments×List Stmt×Scope)
 ow:Nat→List Str
noncomputable def bp (i:Nat) (x:Str):Prop:=mM[i]? = some x
theorem v9:mM.Nodup:=by decide +kernel
theorem bp.inj {i j:Nat} {x:Str} (a:bp i x) (b:bp j x):i=j:=
 (List.getElem?_inj (hM.mp a).1 v9).mp (a.trans b.symm)
theorem bp.fn {i:Nat} {x y:Str} (a:bp i x) (b:bp i y):x=y:=az (a.symm.trans b)
set_option tactic.hygienic true in
theorem Gf {x:Str} {i:Nat} (h:Lr x=some i):bp i x:=by
 unfold Lr at h
 split at h
 ·split at h
  ·split at h
   ·rename_i j _ _ e q;rw [← az h];unfold bp;rw [e,q]
   ·exact nn h
  ·exact nn h
 ·exact nn h
noncomputable def eW (W:Wd):bK→Int
 | .I i=>hashInt i
 | .S s=>hashStr W.w (mM.getD s Str.empty)
 | .T ks=>tupleKeyHash (intKind W.prog W.w) ks
section
variable (W:Wd)
noncomputable def uN (e:Int×Value):Int:=match e.2 with | .int k _=>k | _=>0
structure cS (es:Array (Int×Value)) (t:SetTable) (xs:List Int):Prop where
 els:∀ e∈es.toList,∃ k u,e=(hashInt k,Value.int k u)
 perm:(es.toList.map uN).Perm xs
 tab:jI t es.size
 led:W.w.params.followText "set-order"=true∨t.led=true
 few:es.size < 4000
inductive lW (h:Heap) (a:Addr) (xs:List Int):Prop where
 | mk (es:Array (Int×Value)) (ep:Nat) (t:SetTable) (h1:h.get? a=some (cN es ep t)) (h2:cS W es t xs) (h3:xs.Pairwise (· < ·))
inductive VR (F:Addr→Prop) (h:Heap):T→Value→Prop
 | none:VR F h .none .none
 | bool (b:Bool):VR F h (.bool b) (.bool b)
 | int (i:Int) (t:Tok):VR F h (.int i) (.int i t)
 | str {i:Nat} {x:Str} (t:Tok):bp i x→VR F h (.str i) (.str x t)
 | tup_ {xs:List T} {vs:List Value} {a:Addr} {n:Nat}:F a→h.get? a=some (seqObj "tuple" vs.toArray n)→xs.length≤SZ→xs.length=vs.length→(∀ (i:Nat) t v,xs[i]? = some t→vs[i]? = some v→VR F h t v)→VR F h (.tup xs) (.ref a)
 | list_ {xs:List T} {vs:List Value} {a:Addr} {n:Nat}:F a→h.get? a=some (seqObj "list" vs.toArray n)→xs.length≤SZ→xs.length=vs.length→(∀ (i:Nat) t v,xs[i]? = some t→vs[i]? = some v→VR F h t v)→VR F h (.list xs) (.ref a)
 | dict_ {kvs:List (bK×T)} {es:List DictEntry} {a:Addr} {ep:Nat}:F a→h.get? a=some (aL es ep)→kvs.length≤SZ→(kvs.map (·.1)).Nodup∧(a==sysModules)=false→kvs.length=es.length→
   (∀ (i:Nat) p e,kvs[i]? = some p→es[i]? = some e→VR F h (cf p.1) e.key)→(∀ (i:Nat) p e,kvs[i]? = some p→es[i]? = some e→e.hash=eW W p.1)→(∀ (i:Nat) p e,kvs[i]? = some p→es[i]? = some e→VR F h p.2 e.val)→VR F h (.dict kvs) (.ref a)
 | dvals_ {kvs:List (bK×T)} {es:List DictEntry} {a d:Addr} {ep:Nat}:F a→h.get? a=some ⟨.type "dict_values",Option.none,.fields #[.ref d],#[]⟩→F d→h.get? d=some (aL es ep)→kvs.length≤SZ→kvs.length=es.length→
   (∀ (i:Nat) p e,kvs[i]? = some p→es[i]? = some e→VR F h (cf p.1) e.key)→(∀ (i:Nat) p e,kvs[i]? = some p→es[i]? = some e→e.hash=eW W p.1)→(∀ (i:Nat) p e,kvs[i]? = some p→es[i]? = some e→VR F h p.2 e.val)→VR F h (.dvals kvs) (.ref a)
 | set {xs:List Int} {a:Addr}:F a→xs.length≤SZ→lW W h a xs→VR F h (.set xs) (.ref a)
 | rng {n:Nat} {a:Addr} {b c t:Int} {u v z:Tok}:F a→PySem.IsRange h a b c t u v z→b=0→c=n→t=1→n≤SZ→VR F h (.rng n) (.ref a)
 | inst_ {c:Nat} {fs:List (Nat×T)} {es:List DictEntry} {a dx:Addr} {ep:Nat}:F a→F dx→h.get? a=some (instObj (W.ca c) dx)→h.get? dx=some (aL es ep)→fs.length≤100→fs.length=es.length→
   (∀ (i:Nat) p e,fs[i]? = some p→es[i]? = some e→∃ x u,bp p.1 x∧e.key=.str x u)→(∀ (i:Nat) p e,fs[i]? = some p→es[i]? = some e→VR F h p.2 e.val)→VR F h (.inst c fs) (.ref a)
end
inductive bP {α β:Type} (R:α→β→Prop):List α→List β→Prop
 | nil:bP R [] []
 | cons {a:α} {b:β} {l:List α} {m:List β}:R a b→bP R l m→bP R (a::l) (b::m)
section
variable {α β:Type} {R R':α→β→Prop}
theorem bP.len {l:List α} {m:List β} (x:bP R l m):l.length=m.length:=by
 induction x with
 | nil=>rfl
 | cons _ _ ih=>exact aw (·+1) ih
theorem bP.at {l:List α} {m:List β} (x:bP R l m):∀ (i:Nat) a b,l[i]? = some a→m[i]? = some b→R a b:=by
 induction x with
 | nil=>exact fun _ _ _ h=>nn h
 | cons r _ ih=>exact fun i=>Nat.casesOn i (fun a b h h'=>az h▸az h'▸r) fun i=>ih i
theorem bP.of {l:List α}:∀ {m:List β},l.length=m.length→(∀ (i:Nat) a b,l[i]? = some a→m[i]? = some b→R a b)→bP R l m:=by
 induction l with
 | nil=>intro m e _;rw [eC e.symm];exact .nil
 | cons a l ih=>
  intro m e h
  rcases m with _ | ⟨b,m⟩
  ·exact nomatch e
  ·exact .cons (h 0 a b rfl rfl) (ih (Nat.succ.inj e) fun i=>h (i+1))
theorem bP.imp {l:List α} {m:List β} (k:∀ a b,R a b→R' a b) (x:bP R l m):bP R' l m:=by
 induction x with
 | nil=>exact .nil
 | cons r _ ih=>exact .cons (k _ _ r) ih
theorem bP.append {l l':List α} {m m':List β} (x:bP R l m) (y:bP R l' m'):bP R (l++l') (m++m'):=by
 induction x with
 | nil=>exact y
 | cons r _ ih=>exact .cons r ih
theorem bP.take {l:List α} {m:List β} (x:bP R l m):∀ n,bP R (l.take n) (m.take n):=by
 induction x with
 | nil=>intro n;rw [List.take_nil,List.take_nil];exact .nil
 | cons r _ ih=>exact fun n=>Nat.casesOn n .nil fun n=>.cons r (ih n)
theorem bP.drop {l:List α} {m:List β} (x:bP R l m):∀ n,bP R (l.drop n) (m.drop n):=by
 induction x with
 | nil=>intro n;rw [List.drop_nil,List.drop_nil];exact .nil
 | cons r x ih=>exact fun n=>Nat.casesOn n (.cons r x) fun n=>ih n
end
section
variable (W:Wd)
noncomputable def bR (F:Addr→Prop) (h:Heap):List T→List Value→Prop:=bP (VR W F h)
noncomputable def cM (F:Addr→Prop) (h:Heap):List (bK×T)→List DictEntry→Prop:=bP fun p e=>VR W F h (cf p.1) e.key∧e.hash=eW W p.1∧VR W F h p.2 e.val
noncomputable def j3 (F:Addr→Prop) (h:Heap):List (Nat×T)→List DictEntry→Prop:=bP fun p e=>(∃ x u,bp p.1 x∧e.key=.str x u)∧VR W F h p.2 e.val
end
section
variable {W:Wd} {F:Addr→Prop} {h:Heap}
theorem bR.nil:bR W F h [] []:=bP.nil
theorem bR.cons {x:T} {v:Value} {xs:List T} {vs:List Value} (a:VR W F h x v) (r:bR W F h xs vs):bR W F h (x::xs) (v::vs):=bP.cons a r
theorem cM.nil:cM W F h [] []:=bP.nil
theorem cM.cons {k:bK} {t:T} {e:DictEntry} {kvs:List (bK×T)} {es:List DictEntry} (a:VR W F h (cf k) e.key) (b:e.hash=eW W k) (c:VR W F h t e.val) (r:cM W F h kvs es):cM W F h ((k,t)::kvs) (e::es):=bP.cons ⟨a,b,c⟩ r
theorem j3.nil:j3 W F h [] []:=bP.nil
theorem j3.cons {i:Nat} {x:Str} {u:Tok} {t:T} {e:DictEntry} {fs:List (Nat×T)} {es:List DictEntry} (a:bp i x) (b:e.key=.str x u) (c:VR W F h t e.val) (r:j3 W F h fs es):j3 W F h ((i,t)::fs) (e::es):=bP.cons ⟨⟨x,u,a,b⟩,c⟩ r
theorem VR.tup {xs:List T} {vs:List Value} {a:Addr} {n:Nat} (f:F a) (g:h.get? a=some (seqObj "tuple" vs.toArray n)) (l:xs.length≤SZ) (r:bR W F h xs vs):VR W F h (.tup xs) (.ref a):=.tup_ f g l (bP.len r) (bP.at r)
theorem VR.list {xs:List T} {vs:List Value} {a:Addr} {n:Nat} (f:F a) (g:h.get? a=some (seqObj "list" vs.toArray n)) (l:xs.length≤SZ) (r:bR W F h xs vs):VR W F h (.list xs) (.ref a):=.list_ f g l (bP.len r) (bP.at r)
theorem VR.dict {kvs:List (bK×T)} {es:List DictEntry} {a:Addr} {ep:Nat} (f:F a) (g:h.get? a=some (aL es ep)) (l:kvs.length≤SZ) (n:(kvs.map (·.1)).Nodup∧(a==sysModules)=false) (r:cM W F h kvs es):VR W F h (.dict kvs) (.ref a):=
 .dict_ f g l n (bP.len r) (fun i p e a b=>(bP.at r i p e a b).1) (fun i p e a b=>(bP.at r i p e a b).2.1) fun i p e a b=>(bP.at r i p e a b).2.2
theorem VR.dvals {kvs:List (bK×T)} {es:List DictEntry} {a d:Addr} {ep:Nat} (f:F a) (g:h.get? a=some ⟨.type "dict_values",Option.none,.fields #[.ref d],#[]⟩) (f':F d) (g':h.get? d=some (aL es ep)) (l:kvs.length≤SZ) (r:cM W F h kvs es):VR W F h (.dvals kvs) (.ref a):=
 .dvals_ f g f' g' l (bP.len r) (fun i p e a b=>(bP.at r i p e a b).1) (fun i p e a b=>(bP.at r i p e a b).2.1) fun i p e a b=>(bP.at r i p e a b).2.2
theorem VR.inst {c:Nat} {fs:List (Nat×T)} {es:List DictEntry} {a dx:Addr} {ep:Nat} (f:F a) (f':F dx) (g:h.get? a=some (instObj (W.ca c) dx)) (g':h.get? dx=some (aL es ep)) (l:fs.length≤100) (r:j3 W F h fs es):VR W F h (.inst c fs) (.ref a):=
 .inst_ f f' g g' l (bP.len r) (fun i p e a b=>(bP.at r i p e a b).1) fun i p e a b=>(bP.at r i p e a b).2
end
section
variable {W:Wd} {F F':Addr→Prop} {h h':Heap}
theorem lW.keeps {a:Addr} {xs:List Int} (x:lW W h a xs) (k:∀ o,h.get? a=some o→h'.get? a=some o):lW W h' a xs:=by
 obtain ⟨es,ep,t,ho,r,r'⟩:=x
 exact ⟨es,ep,t,k _ ho,r,r'⟩
theorem cS.length {es:Array (Int×Value)} {t:SetTable} {xs:List Int} (x:cS W es t xs):es.size=xs.length:=by
 have:=x.perm.length_eq
 rw [ba,eX] at this
 exact this
theorem cS.key {es:Array (Int×Value)} {t:SetTable} {xs:List Int} (x:cS W es t xs) (k:Int):k∈xs↔∃ e∈es.toList,(intKind W.prog W.w).is k e.2=true:=by
 rw [← x.perm.mem_iff,bo]
 constructor
 ·rintro ⟨e,he,rfl⟩
  obtain ⟨k,u,rfl⟩:=x.els e he
  exact ⟨_,he,intKind_is _ _ k u⟩
 ·rintro ⟨e,he,hk⟩
  obtain ⟨k',u,rfl⟩:=x.els e he
  exact ⟨_,he,(intKind W.prog W.w).inj _ k' k (intKind_is _ _ k' u) hk⟩
theorem cS.elems {es:Array (Int×Value)} {t:SetTable} {xs:List Int} (x:cS W es t xs):ElemsOf (intKind W.prog W.w) es.toList:=fun e he=>by
 obtain ⟨k,u,rfl⟩:=x.els e he
 exact ⟨⟨k,intKind_is _ _ k u,rfl⟩,rfl⟩
theorem lW.of {a:Addr} {xs:List Int} (x:lW W h a xs):h.SetOf (intKind W.prog W.w) a (fun k=>xs.contains k) xs.length:=by
 obtain ⟨es,ep,t,ho,d,_⟩:=x
 refine ⟨_,es,ep,t,ho,⟨rfl,rfl,rfl⟩,rfl,d.elems,fun k=>?_,?_,d.tab.fits,d.length⟩
 ·rw [← d.key k];simp
 ·have:=d.few;have e:scanBound=4096:=rfl;lia
theorem VR.mono (hF:∀ a,F a→F' a) (hk:∀ a o,F a→h.get? a=some o→h'.get? a=some o) {t:T} {v:Value} (x:VR W F h t v):VR W F' h' t v:=by
 induction x with
 | none=>exact .none
 | bool b=>exact .bool b
 | int i t=>exact .int i t
 | str t n=>exact .str t n
 | tup_ f g l e _ ih=>exact .tup_ (hF _ f) (hk _ _ f g) l e ih
 | list_ f g l e _ ih=>exact .list_ (hF _ f) (hk _ _ f g) l e ih
 | dict_ f g l n e _ hh _ i1 i2=>exact .dict_ (hF _ f) (hk _ _ f g) l n e i1 hh i2
 | dvals_ f g f' g' l e _ hh _ i1 i2=>exact .dvals_ (hF _ f) (hk _ _ f g) (hF _ f') (hk _ _ f' g') l e i1 hh i2
 | set f l r=>exact .set (hF _ f) l (r.keeps fun o e=>hk _ o f e)
 | rng f r b c t n=>exact .rng (hF _ f) (hk _ _ f r) b c t n
 | inst_ f f' g g' l e hh _ ih=>exact .inst_ (hF _ f) (hF _ f') (hk _ _ f g) (hk _ _ f' g') l e hh ih
inductive Jk (W:Wd) (F:Addr→Prop) (h:Heap) (t:T) (ts:List T):List Value→Prop
 | mk (v:Value) (vs:List Value) (a:VR W F h t v) (r:bR W F h ts vs):Jk W F h t ts (v::vs)
theorem bR.inv {t:T} {ts:List T} {vs:List Value} (x:bR W F h (t::ts) vs):Jk W F h t ts vs:=by
 cases x with
 | cons a r=>exact ⟨_,_,a,r⟩
theorem bR.inv0 {vs:List Value} (x:bR W F h [] vs):vs=[]:=by cases x;rfl
theorem bR.mono (hF:∀ a,F a→F' a) (hk:∀ a o,F a→h.get? a=some o→h'.get? a=some o) {xs:List T} {vs:List Value} (x:bR W F h xs vs):bR W F' h' xs vs:=bP.imp (fun _ _ r=>r.mono hF hk) x
inductive PZ (W:Wd) (F:Addr→Prop) (h:Heap) (t:T):List Value→Prop
 | mk (v:Value) (a:VR W F h t v):PZ W F h t [v]
inductive P2 (W:Wd) (F:Addr→Prop) (h:Heap) (t u:T):List Value→Prop
 | mk (v w:Value) (a:VR W F h t v) (b:VR W F h u w):P2 W F h t u [v,w]
theorem bR.one {t:T} {vs:List Value} (x:bR W F h [t] vs):PZ W F h t vs:=by
 obtain ⟨v,vs,a,r⟩:=x.inv
 rw [r.inv0];exact ⟨v,a⟩
theorem bR.two {t u:T} {vs:List Value} (x:bR W F h [t,u] vs):P2 W F h t u vs:=by
 obtain ⟨v,vs,a,r⟩:=x.inv
 obtain ⟨w,b⟩:=r.one
 exact ⟨v,w,a,b⟩
inductive Jq (W:Wd) (F:Addr→Prop) (h:Heap) (k:bK) (t:T) (kvs:List (bK×T)):List DictEntry→Prop
 | mk (e:DictEntry) (es:List DictEntry) (a:VR W F h (cf k) e.key) (b:e.hash=eW W k) (c:VR W F h t e.val) (r:cM W F h kvs es):Jq W F h k t kvs (e::es)
theorem cM.inv {k:bK} {t:T} {kvs:List (bK×T)} {es:List DictEntry} (x:cM W F h ((k,t)::kvs) es):Jq W F h k t kvs es:=by
 cases x with
 | cons a r=>exact ⟨_,_,a.1,a.2.1,a.2.2,r⟩
theorem cM.inv0 {es:List DictEntry} (x:cM W F h [] es):es=[]:=by cases x;rfl
theorem cM.mono (hF:∀ a,F a→F' a) (hk:∀ a o,F a→h.get? a=some o→h'.get? a=some o) {xs:List (bK×T)} {vs:List DictEntry} (x:cM W F h xs vs):cM W F' h' xs vs:=bP.imp (fun _ _ r=>⟨r.1.mono hF hk,r.2.1,r.2.2.mono hF hk⟩) x
inductive Jt (W:Wd) (F:Addr→Prop) (h:Heap) (i:Nat) (t:T) (fs:List (Nat×T)):List DictEntry→Prop
 | mk (x:Str) (u:Tok) (e:DictEntry) (es:List DictEntry) (a:bp i x) (b:e.key=.str x u) (c:VR W F h t e.val) (r:j3 W F h fs es):Jt W F h i t fs (e::es)
theorem j3.inv {i:Nat} {t:T} {fs:List (Nat×T)} {es:List DictEntry} (x:j3 W F h ((i,t)::fs) es):Jt W F h i t fs es:=by
 cases x with
 | cons a r=>obtain ⟨⟨x,u,n,e⟩,c⟩:=a;exact ⟨x,u,_,_,n,e,c,r⟩
theorem j3.inv0 {es:List DictEntry} (x:j3 W F h [] es):es=[]:=by cases x;rfl
theorem j3.mono (hF:∀ a,F a→F' a) (hk:∀ a o,F a→h.get? a=some o→h'.get? a=some o) {xs:List (Nat×T)} {vs:List DictEntry} (x:j3 W F h xs vs):j3 W F' h' xs vs:=bP.imp (fun _ _ r=>⟨r.1,r.2.mono hF hk⟩) x
theorem bR.length {xs:List T} {vs:List Value} (x:bR W F h xs vs):xs.length=vs.length:=bP.len x
theorem cM.length {xs:List (bK×T)} {vs:List DictEntry} (x:cM W F h xs vs):xs.length=vs.length:=bP.len x
theorem j3.length {xs:List (Nat×T)} {vs:List DictEntry} (x:j3 W F h xs vs):xs.length=vs.length:=bP.len x
theorem bR.append {xs ys:List T} {us vs:List Value} (x:bR W F h xs vs) (y:bR W F h ys us):bR W F h (xs++ys) (vs++us):=bP.append x y
theorem bR.get {xs:List T} {vs:List Value} (x:bR W F h xs vs) {i:Nat} {t:T} (e:xs[i]? = some t):∃ v,vs[i]? = some v∧VR W F h t v:=by
 have hi:i < vs.length:=x.length▸(hM.mp e).1
 exact ⟨_,cj hi,bP.at x i _ _ e (cj hi)⟩
theorem bR.getv {xs:List T} {vs:List Value} (x:bR W F h xs vs) {i:Nat} {v:Value} (e:vs[i]? = some v):∃ t,xs[i]? = some t∧VR W F h t v:=by
 have hi:i < xs.length:=x.length.symm▸(hM.mp e).1
 exact ⟨_,cj hi,bP.at x i _ _ (cj hi) e⟩
theorem bR.take {xs:List T} {vs:List Value} (x:bR W F h xs vs) (n:Nat):bR W F h (xs.take n) (vs.take n):=bP.take x n
theorem bR.drop {xs:List T} {vs:List Value} (x:bR W F h xs vs) (n:Nat):bR W F h (xs.drop n) (vs.drop n):=bP.drop x n
inductive gu (W:Wd) (F:Addr→Prop) (h:Heap) (as:List Addr):T→Value→Prop
 | list {xs:List T} {vs:List Value} {a:Addr} {n:Nat}:as=[a]→h.get? a=some (seqObj "list" vs.toArray n)→xs.length≤SZ→bR W F h xs vs→gu W F h as (.list xs) (.ref a)
 | dict {kvs:List (bK×T)} {es:List DictEntry} {a:Addr} {ep:Nat}:as=[a]→h.get? a=some (aL es ep)→kvs.length≤SZ→(kvs.map (·.1)).Nodup∧(a==sysModules)=false→cM W F h kvs es→gu W F h as (.dict kvs) (.ref a)
 | inst {c:Nat} {fs:List (Nat×T)} {es:List DictEntry} {a dx:Addr} {ep:Nat}:as=[a,dx]→h.get? a=some (instObj (W.ca c) dx)→h.get? dx=some (aL es ep)→fs.length≤100→j3 W F h fs es→gu W F h as (.inst c fs) (.ref a)
theorem gu.mono {as:List Addr} {t:T} {v:Value} (hF:∀ a,F a→F' a) (hk:∀ a o,F a∨a∈as→h.get? a=some o→h'.get? a=some o) (x:gu W F h as t v):gu W F' h' as t v:=by
 have hk':=fun a o f=>hk a o (.inl f)
 induction x with
 | list e g l r=>exact .list e (hk _ _ (.inr (by rw [e];simp)) g) l (r.mono hF hk')
 | dict e g l n r=>exact .dict e (hk _ _ (.inr (by rw [e];simp)) g) l n (r.mono hF hk')
 | inst e g g' l r=>exact .inst e (hk _ _ (.inr (by rw [e];simp)) g) (hk _ _ (.inr (by rw [e];simp)) g') l (r.mono hF hk')
theorem gu.freeze {as:List Addr} {t:T} {v:Value} (x:gu W F h as t v):VR W (fun a=>F a∨a∈as) h t v:=by
 have up:∀ a,F a→F a∨a∈as:=fun _=>.inl
 induction x with
 | list e g l r=>exact .list (.inr (by rw [e];simp)) g l (r.mono up fun _ _ _ q=>q)
 | dict e g l n r=>exact .dict (.inr (by rw [e];simp)) g l n (r.mono up fun _ _ _ q=>q)
 | inst e g g' l r=>exact .inst (.inr (by rw [e];simp)) (.inr (by rw [e];simp)) g g' l (r.mono up fun _ _ _ q=>q)
structure b9 (F:Addr→Prop) (s:Shared) (F':Addr→Prop) (s':Shared):Prop where
 gens:s'.gens=s.gens
 os:s'.os=s.os
 keep:∀ b o,s.heap.get? b=some o→s'.heap.get? b=some o
 mono:∀ a,F a→F' a
 fresh:∀ a,F' a→F a∨(s.heap.get? a=none∧∃ o,s'.heap.get? a=some o)
theorem b9.refl (F:Addr→Prop) (s:Shared):b9 F s F s:=⟨rfl,rfl,am,fun _ e=>e,fun _=>.inl⟩
theorem cI {h h':Heap} (k:∀ b o,h.get? b=some o→h'.get? b=some o) {a:Addr} (e:h'.get? a=none):h.get? a=none:=by
 induction q:h.get? a with
 | none=>rfl
 | some o=>rw [k _ _ q] at e;exact nomatch e
theorem b9.trans {F'1 F'2 F'3:Addr→Prop} {s₁ s₂ s'3:Shared} (x:b9 F'1 s₁ F'2 s₂) (y:b9 F'2 s₂ F'3 s'3):b9 F'1 s₁ F'3 s'3:=
 ⟨y.gens.trans x.gens,y.os.trans x.os,fun b o e=>y.keep _ _ (x.keep _ _ e),fun a e=>y.mono _ (x.mono _ e),fun a e=>(y.fresh a e).elim (fun q=>(x.fresh a q).imp id fun z=>⟨z.1,let ⟨o,h⟩:=z.2;⟨o,y.keep _ _ h⟩⟩) fun q=>.inr ⟨cI x.keep q.1,q.2⟩⟩
theorem b9.toks {s:Shared} (F:Addr→Prop) (t:Nat):b9 F s F { s with toks:=t }:=⟨rfl,rfl,am,fun _ e=>e,fun _=>.inl⟩
theorem b9.push {s:Shared} (F:Addr→Prop) (o:Obj) (t:Nat):b9 F s F { s with heap:=s.heap.push o,toks:=t }:=⟨rfl,rfl,fun _ _ e=>bU _ e,fun _ e=>e,fun _=>.inl⟩
theorem aS (h:Heap):h.get? h.objs.size=none:=by
 induction q:h.get? h.objs.size with
 | none=>rfl
 | some o=>exact absurd (ef q) (Nat.lt_irrefl _)
theorem b9.add {F:Addr→Prop} {s s':Shared} {as:List Addr} (x:b9 F s F s') (h:∀ a∈as,s.heap.get? a=none) (l:∀ a∈as,∃ o,s'.heap.get? a=some o):b9 F s (fun a=>F a∨a∈as) s':=
 ⟨x.gens,x.os,x.keep,fun _=>.inl,fun a e=>e.elim .inl fun q=>.inr ⟨h a q,l a q⟩⟩
theorem VR.grow {s s':Shared} {t:T} {v:Value} (x:VR W F s.heap t v) (g:b9 F s F' s'):VR W F' s'.heap t v:=x.mono g.mono fun a o _ e=>g.keep a o e
theorem bR.grow {s s':Shared} {t:List T} {v:List Value} (x:bR W F s.heap t v) (g:b9 F s F' s'):bR W F' s'.heap t v:=x.mono g.mono fun a o _ e=>g.keep a o e
theorem gu.grow {s s':Shared} {as:List Addr} {t:T} {v:Value} (x:gu W F s.heap as t v) (g:b9 F s F' s'):gu W F' s'.heap as t v:=x.mono g.mono fun a o _ e=>g.keep a o e
end
end
end Nz
namespace Nz
open PySem PyProof.Rows PySem.W
variable {h':Heap} {W:Wd} {F:Addr→Prop} {as:List Addr} {v va vb vo:Value} {a C:Addr} {G G'1 G':List bY} {s s':Shared} {α:Type} {xs:List T} {kvs b:List (bK×T)} {es:List DictEntry} {i n:Nat} {vs us:List Value} {A:Around} {ks:List Int} {k:bK} {Q:Unit→Shared→Prop} {es':Array (Int×Value)}
section
set_option genInjectivity true
inductive dj where | loc (L:Addr) (x:Str) | cell (c:Addr)
noncomputable def dj.addr:dj→Addr | .loc L _=>L | .cell c=>c
structure bY where
 nm:Nm
 pl:dj
 own:List Addr
 fv:Value
 fo:List Addr
noncomputable def bY.sh (e:bY):Nm×dj×Value×List Addr:=(e.nm,e.pl,e.fv,e.fo)
noncomputable def dj.Holds (h:Heap):dj→Option Value→Prop
 | .loc L x,v=>∃ m,h.Ns L m∧m x=v
 | .cell c,v=>h.IsCell c v
theorem dj.Holds.keep {h:Heap} {p:dj} {v:Option Value} (x:p.Holds h v) (k:∀ o,h.get? p.addr=some o→h'.get? p.addr=some o):p.Holds h' v:=by
 induction p with
 | loc L n=>obtain ⟨m,⟨o,es,ep,ho,r⟩,e⟩:=x;exact ⟨m,⟨o,es,ep,k _ ho,r⟩,e⟩
 | cell c=>obtain ⟨o,ho,d⟩:=x;exact ⟨o,k _ ho,d⟩
theorem dj.Holds.live {h:Heap} {p:dj} {v:Option Value} (x:p.Holds h v):∃ o,h.get? p.addr=some o:=by
 induction p with
 | loc L n=>obtain ⟨m,⟨o,es,ep,ho,r⟩,e⟩:=x;exact ⟨o,ho⟩
 | cell c=>obtain ⟨o,ho,d⟩:=x;exact ⟨o,ho⟩
theorem dj.Holds.inj {h:Heap} {p:dj} {v u:Option Value} (x:p.Holds h v) (y:p.Holds h u):v=u:=by
 induction p with
 | loc L n=>obtain ⟨m,a,rfl⟩:=x;obtain ⟨m',b,rfl⟩:=y;exact a.agree b n
 | cell c=>
  obtain ⟨o,ho,d⟩:=x;obtain ⟨o',ho',d'⟩:=y
  rw [ho] at ho';obtain rfl:=az ho';rw [d] at d';cases d';rfl
theorem gu.live {h:Heap} {t:T} (x:gu W F h as t v) (ha:a∈as):∃ o,h.get? a=some o:=by
 induction x with
 | list e g l r=>rw [e] at ha;cases aV.mp ha;exact ⟨_,g⟩
 | dict e g l n r=>rw [e] at ha;cases aV.mp ha;exact ⟨_,g⟩
 | inst e g g' l r=>
  rw [e] at ha
  rcases aU.mp ha with rfl | ha
  ·exact ⟨_,g⟩
  ·cases aV.mp ha;exact ⟨_,g'⟩
section
variable (W:Wd)
noncomputable def i8 (F:Addr→Prop) (h:Heap) (e:bY):Slot→Prop
 | .unb=>e.pl.Holds h none
 | .val t=>∃ v,e.pl.Holds h (some v)∧VR W F h t v
 | .own _ t=>∃ v,e.pl.Holds h (some v)∧gu W F h e.own t v
noncomputable def hY (F:Addr→Prop) (h:Heap):List bY→Env→Prop
 | []=>fun ρ=>ρ=[]
 | e::G=>fun l=>match l with
  | []=>False
  | p::ρ=>e.nm=p.1∧i8 W F h e p.2∧hY F h G ρ
end
noncomputable def H0 (h:Heap) (e:bY):Slot→Prop
 | .own fx _=>if fx then e.pl.Holds h (some e.fv)∧e.own=e.fo else True
 | _=>True
noncomputable def rh (h:Heap):List bY→Env→Prop
 | []=>fun _=>True
 | e::G=>fun l=>match l with
  | []=>True
  | p::ρ=>H0 h e p.2∧rh h G ρ
noncomputable def ownOf (e:bY):Slot→List Addr
 | .own _ _=>e.own
 | _=>[]
noncomputable def bk:List bY→Env→List Addr
 | []=>fun _=>[]
 | e::G=>fun l=>match l with
  | []=>[]
  | p::ρ=>ownOf e p.2++bk G ρ
noncomputable def first (G:List bY) (x:Nm):Option bY:=G.find? fun e=>e.nm==x
section
variable {W:Wd} {F F':Addr→Prop} {h h':Heap}
theorem hY.length:∀ {ρ:Env},hY W F h G ρ→G.length=ρ.length:=by
 induction G with
 | nil=>intro ρ x;rw [show ρ=[] from x];rfl
 | cons e G ih=>
  intro ρ x
  induction ρ with
  | nil=>exact x.elim
  | cons p ρ=>exact aw (·+1) (ih x.2.2)
theorem cE {G'2:List bY} {ρ2:Env}:∀ {ρ1:Env},G'1.length=ρ1.length→(rh h (G'1++G'2) (ρ1++ρ2)↔rh h G'1 ρ1∧rh h G'2 ρ2):=by
 induction G'1 with
 | nil=>intro ρ1 l;rw [eC l.symm];exact ⟨fun x=>⟨trivial,x⟩,fun x=>x.2⟩
 | cons e G'1 ih=>
  intro ρ1 l
  induction ρ1 with
  | nil=>exact nomatch l
  | cons p ρ1=>exact (and_congr_right fun _=>ih (Nat.succ.inj l)).trans and_assoc.symm
theorem H0.imp {e:bY} {s:Slot} (x:H0 h e s) (k:∀ v,e.pl.Holds h v→e.pl.Holds h' v):H0 h' e s:=by
 induction s with
 | own b t=>
  induction b with
  | true=>exact ⟨k _ x.1,x.2⟩
  | false=>trivial
 | _=>trivial
theorem rh.imp:∀ {ρ:Env},rh h G ρ→(∀ e∈G,∀ v,e.pl.Holds h v→e.pl.Holds h' v)→rh h' G ρ:=by
 induction G with
 | nil=>exact fun _ _=>trivial
 | cons e G ih=>
  intro ρ x k
  induction ρ with
  | nil=>trivial
  | cons p ρ=>
   exact ⟨x.1.imp (k e (.head _)),ih x.2 fun e' he=>k e' (.tail _ he)⟩
theorem cF {G'2:List bY} {ρ2:Env}:∀ {ρ1:Env},G'1.length=ρ1.length→(hY W F h (G'1++G'2) (ρ1++ρ2)↔hY W F h G'1 ρ1∧hY W F h G'2 ρ2):=by
 induction G'1 with
 | nil=>intro ρ1 l;rw [eC l.symm];exact ⟨fun x=>⟨rfl,x⟩,fun x=>x.2⟩
 | cons e G'1 ih=>
  intro ρ1 l
  induction ρ1 with
  | nil=>exact nomatch l
  | cons p ρ1=>exact (and_congr_right fun _=>(and_congr_right fun _=>ih (Nat.succ.inj l)).trans and_assoc.symm).trans and_assoc.symm
theorem ce {G'2:List bY} {ρ2:Env}:∀ {ρ1:Env},G'1.length=ρ1.length→bk (G'1++G'2) (ρ1++ρ2)=bk G'1 ρ1++bk G'2 ρ2:=by
 induction G'1 with
 | nil=>intro ρ1 l;rw [eC l.symm];rfl
 | cons e G'1 ih=>
  intro ρ1 l
  induction ρ1 with
  | nil=>exact nomatch l
  | cons p ρ1=>exact (aw (_++·) (ih (Nat.succ.inj l))).trans (List.append_assoc ..).symm
theorem Env.get_cons {y x:Nm} {s:Slot} {ρ:Env}:Env.get ((y,s)::ρ) x=if y=x then s else ρ.get x:=rfl
theorem Env.set_cons {y x:Nm} {s v:Slot} {ρ:Env}:Env.set ((y,s)::ρ) x v=if y=x then (y,v)::ρ else (y,s)::ρ.set x v:=rfl
inductive LS (G:List bY) (ρ:Env) (x:Nm) (e:bY):Prop where
 | mk (G'1 G'2:List bY) (ρ1 ρ2:Env) (s:Slot) (h1:G=G'1++e::G'2) (h2:ρ=ρ1++(x,s)::ρ2) (h3:G'1.length=ρ1.length) (h4:ρ.get x=s) (h5:∀ s',ρ.set x s'=ρ1++(x,s')::ρ2) (h6:e.nm=x) (h7:∀ e'∈G'1,e'.nm≠x)
theorem hY.split {x:Nm} {e:bY}:∀ {ρ:Env},hY W F h G ρ→first G x=some e→LS G ρ x e:=by
 induction G with
 | nil=>intro ρ _ f;exact nn f
 | cons e' G ih=>
  intro ρ r f
  induction ρ with
  | nil=>exact r.elim
  | cons p ρ=>
   obtain ⟨y,s⟩:=p
   unfold first at f
   rw [List.find?_cons] at f
   have hn:e'.nm=y:=r.1
   by_cases q:e'.nm=x
   ·rw [show (e'.nm==x)=true from bm.mpr q] at f
    obtain rfl:=az f
    obtain rfl:y=x:=hn.symm.trans q
    exact ⟨[],G,[],ρ,s,rfl,rfl,rfl,au rfl,fun s'=>au rfl,q,fun _ h=>nomatch h⟩
   ·rw [show (e'.nm==x)=false from eG.mpr q] at f
    obtain ⟨G'1,G'2,ρ1,ρ2,s₁,h1,h2,h3,h4,h5,h6,h7⟩:=ih r.2.2 f
    have hy:y≠x:=fun z=>q (hn.trans z)
    exact ⟨e'::G'1,G'2,(y,s)::ρ1,ρ2,s₁,aw _ h1,aw _ h2,aw (·+1) h3,(av hy).trans h4,fun s'=>(av hy).trans (aw _ (h5 s')),h6,fun e'2 he=>(aU.mp he).elim (fun z=>z▸q) (h7 _)⟩
theorem hY.imp:∀ {ρ:Env},hY W F h G ρ→(∀ e∈G,∀ s,(∀ a∈ownOf e s,a∈bk G ρ)→i8 W F h e s→i8 W F' h' e s)→hY W F' h' G ρ:=by
 induction G with
 | nil=>exact fun x _=>x
 | cons e G ih=>
  intro ρ x k
  induction ρ with
  | nil=>exact x
  | cons p ρ=>exact ⟨x.1,k e (.head _) _ (fun a ha=>eY _ ha) x.2.1,ih x.2.2 fun e' he s hs=>k e' (.tail _ he) s fun a ha=>dq _ (hs a ha)⟩
theorem i8.imp {e:bY} {s:Slot} (x:i8 W F h e s) (hp:∀ v,e.pl.Holds h v→e.pl.Holds h' v) (hF:∀ a,F a→F' a) (hk:∀ a o,F a∨a∈ownOf e s→h.get? a=some o→h'.get? a=some o):i8 W F' h' e s:=by
 induction s with
 | unb=>exact hp _ x
 | val t=>obtain ⟨v,a,b⟩:=x;exact ⟨v,hp _ a,b.mono hF fun a o f=>hk a o (.inl f)⟩
 | own fx t=>obtain ⟨v,a,b⟩:=x;exact ⟨v,hp _ a,b.mono hF hk⟩
theorem hY.live:∀ {ρ:Env},hY W F h G ρ→a∈bk G ρ→∃ o,h.get? a=some o:=by
 induction G with
 | nil=>intro ρ _ ha;exact nomatch ha
 | cons e G ih=>
  intro ρ x ha
  induction ρ with
  | nil=>exact x.elim
  | cons p ρ=>
   rcases cH.mp ha with ha | ha
   ·have r:=x.2.1
    generalize p.2=s at ha r
    induction s with
    | own fx t=>obtain ⟨v,_,b⟩:=r;exact b.live ha
    | _=>exact nomatch ha
   ·exact ih x.2.2 ha
theorem i8.holds {e:bY} {s:Slot} (x:i8 W F h e s):∃ v,e.pl.Holds h v:=by
 induction s with
 | unb=>exact ⟨_,x⟩
 | val t=>obtain ⟨v,a,_⟩:=x;exact ⟨_,a⟩
 | own fx t=>obtain ⟨v,a,_⟩:=x;exact ⟨_,a⟩
theorem hY.holds {e:bY}:∀ {ρ:Env},hY W F h G ρ→e∈G→∃ v,e.pl.Holds h v:=by
 induction G with
 | nil=>intro ρ _ he;exact nomatch he
 | cons e' G ih=>
  intro ρ x he
  induction ρ with
  | nil=>exact x.elim
  | cons p ρ=>
   rcases aU.mp he with rfl | he
   ·exact x.2.1.holds
   ·exact ih x.2.2 he
theorem hY.liveP {e:bY} {ρ:Env} (x:hY W F h G ρ) (m:e∈G):∃ o,h.get? e.pl.addr=some o:=(x.holds m).elim fun _ h=>h.live
end
structure St (W:Wd) (F:Addr→Prop) (G:List bY) (ρ:Env) (s:Shared):Prop where
 env:hY W F s.heap G ρ
 world:∀ b o,W.h0.get? b=some o→s.heap.get? b=some o
 base:∀ a,W.F0 a→F a
 live:∀ a,F a→∃ o,s.heap.get? a=some o
 places:(G.map (·.pl)).Nodup
 nodup:(bk G ρ).Nodup
 ownF:∀ a∈bk G ρ,¬ F a
 ownP:∀ a∈bk G ρ,∀ e∈G,e.pl.addr≠a
 plF:∀ e∈G,¬ F e.pl.addr
 new:∀ a∈bk G ρ,W.h0.get? a=none
 newP:∀ e∈G,W.h0.get? e.pl.addr=none
 fix:rh s.heap G ρ
structure eQ (F:Addr→Prop) (G:List bY) (ρ:Env) (s:Shared) (F':Addr→Prop) (G':List bY) (ρ':Env) (s':Shared):Prop where
 gens:s'.gens=s.gens
 os:s'.os=s.os
 mono:∀ a,F a→F' a
 keep:∀ b o,s.heap.get? b=some o→b∉bk G ρ→(∀ e∈G,e.pl.addr≠b)→s'.heap.get? b=some o
 freshF:∀ a,F' a→F a∨s.heap.get? a=none∨a∈bk G ρ
 freshO:∀ a∈bk G' ρ',a∈bk G ρ∨s.heap.get? a=none
 lives:∀ b,s'.heap.get? b=none→s.heap.get? b=none
 sh:G'.map bY.sh=G.map bY.sh
theorem eQ.refl {ρ:Env}:eQ F G ρ s F G ρ s:=
 ⟨rfl,rfl,fun _ h=>h,fun _ _ h _ _=>h,fun _=>.inl,fun _=>.inl,fun _ h=>h,rfl⟩
theorem xv (sh:G'.map bY.sh=G.map bY.sh) {e:bY} (he:e∈G'):∃ e'∈G,e'.nm=e.nm∧e'.pl=e.pl:=by
 have:e.sh∈G.map bY.sh:=sh▸List.mem_map_of_mem (f:=bY.sh) he
 obtain ⟨e',h1,h2⟩:=bo.mp this
 exact ⟨e',h1,aw (·.1) h2,aw (·.2.1) h2⟩
theorem eQ.trans {F'1 F'2 F'3:Addr→Prop} {G'2 G'3:List bY} {ρ1 ρ2 ρ3:Env} {s₁ s₂ s'3:Shared} (x:eQ F'1 G'1 ρ1 s₁ F'2 G'2 ρ2 s₂) (y:eQ F'2 G'2 ρ2 s₂ F'3 G'3 ρ3 s'3):eQ F'1 G'1 ρ1 s₁ F'3 G'3 ρ3 s'3 where
 gens:=y.gens.trans x.gens
 os:=y.os.trans x.os
 mono:=fun a h=>y.mono _ (x.mono _ h)
 keep:=fun b o h hn hp=>y.keep _ _ (x.keep _ _ h hn hp) (fun hm=>by
  rcases x.freshO _ hm with q | q
  ·exact hn q
  ·rw [h] at q;exact nomatch q) fun e he=>by
   obtain ⟨e',h1,_,h2⟩:=xv x.sh he
   rw [← h2];exact hp _ h1
 freshF:=fun a h=>by
  rcases y.freshF _ h with q | q | q
  ·exact x.freshF _ q
  ·exact .inr (.inl (x.lives _ q))
  ·rcases x.freshO _ q with z | z
   ·exact .inr (.inr z)
   ·exact .inr (.inl z)
 freshO:=fun a h=>by
  rcases y.freshO _ h with q | q
  ·exact x.freshO _ q
  ·exact .inr (x.lives _ q)
 lives:=fun b h=>x.lives _ (y.lives _ h)
 sh:=y.sh.trans x.sh
structure b2 (F:Addr→Prop) (G:List bY) (ρ:Env) (s:Shared) (F':Addr→Prop) (ρ':Env) (s':Shared):Prop where
 step:eQ F G ρ s F' G ρ' s'
 pl:∀ e∈G,∀ o,s.heap.get? e.pl.addr=some o→s'.heap.get? e.pl.addr=some o
 own:∀ a∈bk G ρ',a∈bk G ρ
theorem b2.refl {ρ:Env}:b2 F G ρ s F ρ s:=⟨.refl,fun _ _ _ h=>h,fun _ h=>h⟩
theorem b2.trans {F'1 F'2 F'3:Addr→Prop} {ρ1 ρ2 ρ3:Env} {s₁ s₂ s'3:Shared} (x:b2 F'1 G ρ1 s₁ F'2 ρ2 s₂) (y:b2 F'2 G ρ2 s₂ F'3 ρ3 s'3):b2 F'1 G ρ1 s₁ F'3 ρ3 s'3:=
 ⟨x.step.trans y.step,fun e he o h=>y.pl e he o (x.pl e he o h),fun a h=>x.own a (y.own a h)⟩
section
variable {W:Wd} {F F':Addr→Prop} {G:List bY} {ρ ρ':Env} {s s':Shared}
theorem eQ.vr (y:eQ F G ρ s F' G' ρ' s') (x:St W F G ρ s) {t:T} (r:VR W F s.heap t v):VR W F' s'.heap t v:=
 r.mono y.mono fun a o f e=>y.keep a o e (fun m=>x.ownF _ m f) fun e he q=>x.plF e he (q▸f)
theorem eQ.vrs (y:eQ F G ρ s F' G' ρ' s') (x:St W F G ρ s) {t:List T} {v:List Value} (r:bR W F s.heap t v):bR W F' s'.heap t v:=
 r.mono y.mono fun a o f e=>y.keep a o e (fun m=>x.ownF _ m f) fun e he q=>x.plF e he (q▸f)
theorem St.grow (x:St W F G ρ s) (g:b9 F s F' s'):St W F' G ρ s'∧b2 F G ρ s F' ρ s':=by
 have lO:∀ a∈bk G ρ,s.heap.get? a≠none:=fun a ha e=>by obtain ⟨o,h⟩:=x.env.live ha;rw [h] at e;exact nomatch e
 have lP:∀ e∈G,s.heap.get? e.pl.addr≠none:=fun a ha e=>by obtain ⟨o,h⟩:=x.env.liveP ha;rw [h] at e;exact nomatch e
 refine ⟨⟨x.env.imp fun e he s hs r=>r.imp (fun v q=>q.keep fun o=>g.keep _ o) g.mono fun a o _=>g.keep a o,fun b o e=>g.keep _ _ (x.world _ _ e),fun a e=>g.mono _ (x.base _ e),fun a f=>(g.fresh _ f).elim (fun q=>let ⟨o,h⟩:=x.live a q;⟨o,g.keep _ _ h⟩) (·.2),x.places,x.nodup,
  fun a ha f=>(g.fresh _ f).elim (x.ownF _ ha) (fun q=>lO a ha q.1),x.ownP,fun e he f=>(g.fresh _ f).elim (x.plF _ he) (fun q=>lP e he q.1),x.new,x.newP,x.fix.imp fun e he v q=>q.keep fun o=>g.keep _ o⟩,
  ⟨⟨g.gens,g.os,g.mono,fun b o e _ _=>g.keep _ _ e,fun a e=>(g.fresh _ e).elim .inl fun q=>.inr (.inl q.1),fun a=>.inl,fun b e=>cI g.keep e,rfl⟩,fun e he o q=>g.keep _ _ q,fun _ h=>h⟩⟩
theorem tQ {l'1 o o' l'2:List α} (h:(l'1++(o++l'2)).Nodup) (hn:o'.Nodup) (hd:∀ a∈o',a∉l'1∧a∉l'2):(l'1++(o'++l'2)).Nodup:=by
 rw [cD] at h ⊢
 obtain ⟨h1,h2,h3⟩:=h
 rw [cD] at h2 ⊢
 refine ⟨h1,⟨hn,h2.2.1,fun a ha b hb e=>(hd a ha).2 (e▸hb)⟩,fun a ha b hb e=>?_⟩
 rcases cH.mp hb with q | q
 ·exact (hd b q).1 (e▸ha)
 ·exact h3 a ha b (dq _ q) e
theorem St.look (x:St W F G ρ s) {n:Nm} {e:bY} (f:first G n=some e):i8 W F s.heap e (ρ.get n):=by
 obtain ⟨G'1,G'2,ρ1,ρ2,sl,rfl,rfl,hl,hg,hs,hn,_⟩:=x.env.split f
 rw [hg]
 have:=(cF hl).mp x.env
 exact this.2.2.1
theorem St.freeze (x:St W F G ρ s) {n:Nm} {e:bY} {fx:Bool} {t:T} (f:first G n=some e) (hn:ρ.get n=.own fx t) :
  St W (fun a=>F a∨a∈e.own) G (ρ.set n (.val t)) s∧b2 F G ρ s (fun a=>F a∨a∈e.own) (ρ.set n (.val t)) s∧∃ v,e.pl.Holds s.heap (some v)∧VR W (fun a=>F a∨a∈e.own) s.heap t v:=by
 obtain ⟨G'1,G'2,ρ1,ρ2,sl,rfl,rfl,hl,hg,hs,hne,_⟩:=x.env.split f
 rw [hn] at hg;subst hg
 rw [hs]
 have E:=(cF hl).mp x.env
 have X:=(cE hl).mp x.fix
 obtain ⟨v,hv,ho⟩:=E.2.2.1
 have U:∀ a,F a→F a∨a∈e.own:=fun _=>.inl
 have O:bk (G'1++e::G'2) (ρ1++(n,.own fx t)::ρ2)=bk G'1 ρ1++(e.own++bk G'2 ρ2):=by rw [ce hl];rfl
 have O':bk (G'1++e::G'2) (ρ1++(n,.val t)::ρ2)=bk G'1 ρ1++bk G'2 ρ2:=by rw [ce hl];rfl
 have sub:∀ a∈bk (G'1++e::G'2) (ρ1++(n,.val t)::ρ2),a∈bk (G'1++e::G'2) (ρ1++(n,.own fx t)::ρ2):=fun a ha=>by
  rw [O'] at ha;rw [O]
  rcases cH.mp ha with q | q
  ·exact eY _ q
  ·exact dq _ (dq _ q)
 have inO:∀ a∈e.own,a∈bk (G'1++e::G'2) (ρ1++(n,.own fx t)::ρ2):=fun a ha=>by rw [O];exact dq _ (eY _ ha)
 have nd:=x.nodup
 rw [O] at nd
 have same:∀ (e':bY) (sl:Slot),i8 W F s.heap e' sl→i8 W (fun a=>F a∨a∈e.own) s.heap e' sl:=fun e' sl r=>r.imp (fun _ q=>q) U fun _ _ _ q=>q
 have dis:∀ a∈bk (G'1++e::G'2) (ρ1++(n,.val t)::ρ2),a∉e.own:=fun a ha hm=>by
  rw [O'] at ha
  rw [cD] at nd
  rcases cH.mp ha with q | q
  ·exact nd.2.2 a q a (eY _ hm) rfl
  ·exact (cD.mp nd.2.1).2.2 a hm a q rfl
 refine ⟨⟨(cF hl).mpr ⟨E.1.imp fun e' _ sl _ r=>same e' sl r,E.2.1,⟨v,hv,ho.freeze⟩,E.2.2.2.imp fun e' _ sl _ r=>same e' sl r⟩,x.world,fun a h=>.inl (x.base _ h),fun a f=>f.elim (x.live a) (fun q=>x.env.live (inO a q)),x.places,?_,fun a ha f=>?_,fun a ha=>x.ownP a (sub a ha),fun e' he f=>?_,fun a ha=>x.new a (sub a ha),x.newP,(cE hl).mpr ⟨X.1,trivial,X.2.2⟩⟩,
  ⟨⟨rfl,rfl,U,fun b o h _ _=>h,fun a h=>h.elim .inl fun q=>.inr (.inr (inO a q)),fun a h=>.inl (sub a h),fun _ h=>h,rfl⟩,fun _ _ _ h=>h,sub⟩,v,hv,ho.freeze⟩
 ·rw [O'];have:=tQ (o':=[]) nd cK (fun a h=>by exact nomatch h);simpa using this
 ·exact f.elim (x.ownF a (sub a ha)) (dis a ha)
 ·exact f.elim (x.plF e' he) fun q=>x.ownP _ (inO _ q) e' he rfl
theorem St.mutateF (x:St W F G ρ s) {n:Nm} {e:bY} {fx:Bool} {t t':T} (f:first G n=some e) (hn:ρ.get n=.own fx t) (hv:e.pl.Holds s.heap (some v)) (hw:gu W F' s'.heap e.own t' v)
  (hk:∀ b o,b∉e.own→s.heap.get? b=some o→s'.heap.get? b=some o) (hgn:s'.gens=s.gens) (hos:s'.os=s.os) (hm:∀ a,F a→F' a) (hfr:∀ a,F' a→F a∨(s.heap.get? a=none∧∃ o,s'.heap.get? a=some o)) :
  St W F' G (ρ.set n (.own fx t')) s'∧b2 F G ρ s F' (ρ.set n (.own fx t')) s':=by
 have lO:∀ a∈bk G ρ,s.heap.get? a≠none:=fun a ha e=>by obtain ⟨o,h⟩:=x.env.live ha;rw [h] at e;exact nomatch e
 have lP:∀ e∈G,s.heap.get? e.pl.addr≠none:=fun a ha e=>by obtain ⟨o,h⟩:=x.env.liveP ha;rw [h] at e;exact nomatch e
 obtain ⟨G'1,G'2,ρ1,ρ2,sl,rfl,rfl,hl,hg,hs,hne,_⟩:=x.env.split f
 rw [hn] at hg;subst hg
 rw [hs]
 have E:=(cF hl).mp x.env
 have O:bk (G'1++e::G'2) (ρ1++(n,.own fx t)::ρ2)=bk G'1 ρ1++(e.own++bk G'2 ρ2):=by rw [ce hl];rfl
 have O':bk (G'1++e::G'2) (ρ1++(n,.own fx t')::ρ2)=bk (G'1++e::G'2) (ρ1++(n,.own fx t)::ρ2):=by rw [O,ce hl];rfl
 have inO:∀ a∈e.own,a∈bk (G'1++e::G'2) (ρ1++(n,.own fx t)::ρ2):=fun a ha=>by rw [O];exact dq _ (eY _ ha)
 have nd:=x.nodup
 rw [O] at nd
 have keepP:∀ e'∈G'1++e::G'2,∀ o,s.heap.get? e'.pl.addr=some o→s'.heap.get? e'.pl.addr=some o:=fun e' he o=>hk _ _ fun q=>x.ownP _ (inO _ q) e' he rfl
 have keepF:∀ a o,F a→s.heap.get? a=some o→s'.heap.get? a=some o:=fun a o f=>hk a o fun q=>x.ownF _ (inO a q) f
 have fixM:rh s'.heap (G'1++e::G'2) (ρ1++(n,.own fx t')::ρ2):=by
  have X:=(cE hl).mp (x.fix.imp fun e' he v q=>q.keep (keepP e' he))
  refine (cE hl).mpr ⟨X.1,?_,X.2.2⟩
  have:=X.2.1
  induction fx with
  | true=>exact this
  | false=>trivial
 have lives:∀ b,s'.heap.get? b=none→s.heap.get? b=none:=fun b hb=>by
  induction q:s.heap.get? b with
  | none=>rfl
  | some o=>
   by_cases hm:b∈e.own
   ·obtain ⟨o',h'⟩:=hw.live hm;rw [h'] at hb;exact nomatch hb
   ·rw [hk _ _ hm q] at hb;exact nomatch hb
 refine ⟨⟨(cF hl).mpr ⟨E.1.imp fun e' he sl hsl r=>r.imp (fun _ q=>q.keep (keepP e' (eY _ he))) hm fun a o c=>?_,E.2.1,⟨v,hv.keep (keepP e (by simp)),hw⟩,E.2.2.2.imp fun e' he sl hsl r=>r.imp (fun _ q=>q.keep (keepP e' (dq _ (.tail _ he)))) hm fun a o c=>?_⟩,
  fun b o h=>hk _ _ (fun q=>by have:=x.new _ (inO _ q);rw [h] at this;exact nomatch this) (x.world _ _ h),fun a h=>hm a (x.base a h),fun a f=>(hfr a f).elim (fun q=>let ⟨o,h⟩:=x.live a q;⟨o,keepF a o q h⟩) (·.2),x.places,by rw [O'];exact x.nodup,
  fun a ha f=>by rw [O'] at ha;exact (hfr a f).elim (x.ownF a ha) (fun q=>lO a ha q.1),by rw [O'];exact x.ownP,fun e' he f=>(hfr _ f).elim (x.plF e' he) (fun q=>lP e' he q.1),by rw [O'];exact x.new,x.newP,fixM⟩,
  ⟨⟨hgn,hos,hm,fun b o h hb _=>hk _ _ (fun q=>hb (inO _ q)) h,fun a h=>(hfr a h).elim .inl fun q=>.inr (.inl q.1),fun a h=>.inl (O'▸h),lives,rfl⟩,keepP,fun a h=>O'▸h⟩⟩
 ·rw [cD] at nd
  exact c.elim (keepF a o) fun q=>hk a o fun m=>nd.2.2 a (hsl a q) a (eY _ m) rfl
 ·rw [cD] at nd
  exact c.elim (keepF a o) fun q=>hk a o fun m=>(cD.mp nd.2.1).2.2 a m a (hsl a q) rfl
theorem St.mutate (x:St W F G ρ s) {n:Nm} {e:bY} {fx:Bool} {t t':T} (f:first G n=some e) (hn:ρ.get n=.own fx t) (hv:e.pl.Holds s.heap (some v)) (hw:gu W F s'.heap e.own t' v)
  (hk:∀ b o,b∉e.own→s.heap.get? b=some o→s'.heap.get? b=some o) (hgn:s'.gens=s.gens) (hos:s'.os=s.os):St W F G (ρ.set n (.own fx t')) s'∧b2 F G ρ s F (ρ.set n (.own fx t')) s':=
 x.mutateF f hn hv hw hk hgn hos (fun _ h=>h) fun _=>.inl
theorem M1 {e:bY} {sl:Slot} (h:a∈ownOf { e with own:=as } sl):a∈as:=by induction sl<;>first | exact h | exact nomatch h
theorem St.store {F'0:Addr→Prop} {G'0:List bY} {ρ0:Env} {s'0:Shared} (x:St W F G ρ s) (y:eQ F'0 G'0 ρ0 s'0 F G ρ s) {n:Nm} {e:bY} {sl':Slot} (f:first G n=some e)
  (hk:∀ b o,b≠e.pl.addr→s.heap.get? b=some o→s'.heap.get? b=some o) (hoth:∀ p:dj,p≠e.pl→∀ v,p.Holds s.heap v→p.Holds s'.heap v) (hsl:i8 W F s'.heap { e with own:=as } sl')
  (ho:(ownOf { e with own:=as } sl').Nodup) (hF:∀ a∈ownOf { e with own:=as } sl',¬ F a) (hP:∀ a∈ownOf { e with own:=as } sl',∀ e'∈G,e'.pl.addr≠a) (hO:∀ a∈ownOf { e with own:=as } sl',a∉bk G ρ)
  (hN:∀ a∈ownOf { e with own:=as } sl',W.h0.get? a=none) (hS:∀ a∈ownOf { e with own:=as } sl',s'0.heap.get? a=none) (hnf:∀ t,sl'≠.own true t) (hgn:s'.gens=s.gens) (hos:s'.os=s.os) :
  ∃ G',(as=e.own→G'=G)∧(∀ a∈bk G' (ρ.set n sl'),a∈ownOf { e with own:=as } sl'∨a∈bk G ρ)∧St W F G' (ρ.set n sl') s'∧eQ F'0 G'0 ρ0 s'0 F G' (ρ.set n sl') s':=by
 obtain ⟨G'1,G'2,ρ1,ρ2,sl,rfl,rfl,hl,hg,hs,hne,_⟩:=x.env.split f
 rw [hs]
 have E:=(cF hl).mp x.env
 generalize hO':ownOf { e with own:=as } sl'=o' at *
 have O:bk (G'1++e::G'2) (ρ1++(n,sl)::ρ2)=bk G'1 ρ1++(ownOf e sl++bk G'2 ρ2):=by rw [ce hl];rfl
 have O':bk (G'1++{ e with own:=as }::G'2) (ρ1++(n,sl')::ρ2)=bk G'1 ρ1++(o'++bk G'2 ρ2):=by rw [ce hl,← hO'];rfl
 have sub:∀ a∈bk (G'1++{ e with own:=as }::G'2) (ρ1++(n,sl')::ρ2),a∈o'∨a∈bk (G'1++e::G'2) (ρ1++(n,sl)::ρ2):=fun a ha=>by
  rw [O'] at ha;rw [O]
  rcases cH.mp ha with q | q
  ·exact .inr (eY _ q)
  ·rcases cH.mp q with q | q
   ·exact .inl q
   ·exact .inr (dq _ (dq _ q))
 have nd:=x.nodup
 rw [O] at nd
 have shM:(G'1++{ e with own:=as }::G'2).map bY.sh=(G'1++e::G'2).map bY.sh:=by simp [bY.sh]
 have plM:(G'1++{ e with own:=as }::G'2).map (·.pl)=(G'1++e::G'2).map (·.pl):=by simp
 have inG:∀ e'∈G'1++{ e with own:=as }::G'2,∃ e'2∈G'1++e::G'2,e'2.pl=e'.pl:=fun e' he=>by
  obtain ⟨e'2,h1,_,h2⟩:=xv shM he;exact ⟨e'2,h1,h2⟩
 have neP:∀ e'∈G'1,e'.pl≠e.pl:=fun e' he q=>by
  have:=x.places
  rw [dJ,cD] at this
  exact this.2.2 _ (List.mem_map_of_mem he) _ (List.mem_map_of_mem (List.Mem.head _)) q
 have neP':∀ e'∈G'2,e'.pl≠e.pl:=fun e' he q=>by
  have:=x.places
  rw [dJ,cD,c6,cP] at this
  exact this.2.1.1 (q▸List.mem_map_of_mem he)
 have keepF:∀ a o,F a→s.heap.get? a=some o→s'.heap.get? a=some o:=fun a o f=>hk a o fun q=>x.plF e (by simp) (q▸f)
 have keepO:∀ a o,a∈bk (G'1++e::G'2) (ρ1++(n,sl)::ρ2)→s.heap.get? a=some o→s'.heap.get? a=some o:=fun a o m=>hk a o fun q=>x.ownP a m e (by simp) q.symm
 have liveE:∃ o,s'.heap.get? e.pl.addr=some o:=by
  induction sl' with
  | unb=>exact dj.Holds.live (p:=e.pl) hsl
  | val t=>obtain ⟨v,q,_⟩:=hsl;exact dj.Holds.live (p:=e.pl) q
  | own fx t=>obtain ⟨v,q,_⟩:=hsl;exact dj.Holds.live (p:=e.pl) q
 have lives:∀ b,s'.heap.get? b=none→s.heap.get? b=none:=fun b hb=>by
  induction q:s.heap.get? b with
  | none=>rfl
  | some o=>
   by_cases hm:b=e.pl.addr
   ·obtain ⟨o',h'⟩:=liveE;rw [hm,h'] at hb;exact nomatch hb
   ·rw [hk _ _ hm q] at hb;exact nomatch hb
 refine ⟨G'1++{ e with own:=as }::G'2,(fun z=>by rw [z]),sub,⟨(cF hl).mpr ⟨E.1.imp fun e' he sl hsl r=>r.imp (hoth _ (neP e' he)) (fun _ h=>h) fun a o c=>?_,E.2.1,hsl,E.2.2.2.imp fun e' he sl hsl r=>r.imp (hoth _ (neP' e' he)) (fun _ h=>h) fun a o c=>?_⟩,
  fun b o h=>hk _ _ (fun q=>by have:=x.newP e (by simp);rw [← q,h] at this;exact nomatch this) (x.world _ _ h),x.base,fun a f=>let ⟨o,h⟩:=x.live a f;⟨o,keepF a o f h⟩,plM▸x.places,?_,fun a ha=>?_,fun a ha e' he=>?_,fun e' he=>?_,fun a ha=>?_,fun e' he=>?_,?_⟩,
  ⟨hgn.trans y.gens,hos.trans y.os,y.mono,fun b o h hb hp=>?_,y.freshF,fun a ha=>?_,fun b h=>y.lives _ (lives _ h),shM.trans y.sh⟩⟩
 ·exact c.elim (keepF a o) fun q=>keepO a o (by rw [O];exact eY _ (hsl a q))
 ·exact c.elim (keepF a o) fun q=>keepO a o (by rw [O];exact dq _ (dq _ (hsl a q)))
 ·rw [O']
  exact tQ nd ho fun a ha=>⟨fun q=>hO a ha (by rw [O];exact eY _ q),fun q=>hO a ha (by rw [O];exact dq _ (dq _ q))⟩
 ·exact (sub a ha).elim (hF a) (x.ownF a)
 ·obtain ⟨e'2,h1,h2⟩:=inG e' he
  rw [← h2]
  exact (sub a ha).elim (fun q=>hP a q _ h1) fun q=>x.ownP a q _ h1
 ·obtain ⟨e'2,h1,h2⟩:=inG e' he
  rw [← h2];exact x.plF _ h1
 ·exact (sub a ha).elim (hN a) (x.new a)
 ·obtain ⟨e'2,h1,h2⟩:=inG e' he
  rw [← h2];exact x.newP _ h1
 ·have X:=(cE hl).mp x.fix
  refine (cE hl).mpr ⟨X.1.imp fun e' he=>hoth _ (neP e' he),?_,X.2.2.imp fun e' he=>hoth _ (neP' e' he)⟩
  induction sl' with
  | own b t=>induction b with
   | true=>exact absurd rfl (hnf t)
   | false=>trivial
  | _=>trivial
 ·refine hk _ _ (fun q=>?_) (y.keep _ _ h hb hp)
  obtain ⟨e',h1,_,h2⟩:=xv y.sh (e:=e) (by simp)
  exact hp e' h1 (h2▸q.symm)
 ·exact (sub a ha).elim (fun q=>.inr (hS a q)) (y.freshO a)
theorem Cf {h:Heap} {L:Addr} {n:Str} {m:Str→Option Value} {u:Option Value} (hn:h.Ns L m) (hn':h'.Ns L (fun y=>if y=n then u else m y)) (hs:Heap.SameBut L h h'):∀ p:dj,p≠.loc L n→∀ v,p.Holds h v→p.Holds h' v:=by
 intro p hp v hv
 induction p with
 | loc L' y=>
  by_cases q:L'=L
  ·subst q
   obtain ⟨m',a,b⟩:=hv
   have hy:y≠n:=fun z=>hp (by rw [z])
   refine ⟨_,hn',?_⟩
   rw [av hy,hn.agree a y];exact b
  ·exact hv.keep fun o e=>hs.extBut _ _ q e
 | cell c=>
  refine hv.keep fun o e=>hs.extBut _ _ (fun z=>?_) e
  obtain ⟨o',h1,h2⟩:=hv
  obtain ⟨o'2,es,ep,h3,h4,_⟩:=hn
  have z:c=L:=z
  rw [z,h3] at h1;obtain rfl:=az h1;rw [h4] at h2;cases h2
theorem zg {h:Heap} {c:Addr} {u:Option Value} (hn:h.IsCell c u) (hs:Heap.SameBut c h h'):∀ p:dj,p≠.cell c→∀ v,p.Holds h v→p.Holds h' v:=by
 intro p hp v hv
 refine hv.keep fun o e=>hs.extBut _ _ (fun z=>?_) e
 induction p with
 | loc L' y=>
  obtain ⟨m,⟨o'2,es,ep,h3,h4,_⟩,_⟩:=hv
  obtain ⟨o',h1,h2⟩:=hn
  have z:L'=c:=z
  rw [z,h1] at h3;obtain rfl:=az h3;rw [h2] at h4;cases h4
 | cell c'=>exact hp (aw dj.cell z)
end
end
section
section
variable {W:Wd} {F F' F'0 F'1 F'2:Addr→Prop} {G G'0 H:List bY} {ρ ρ' ρ0 ρ1 ρ2:Env} {s s' s'0 s₁ s₂:Shared} {P:List Addr}
noncomputable def iA (W:Wd) (F:Addr→Prop) (G:List bY) (ρ:Env) (P:List Addr):Prop:=∀ a∈P,¬ F a∧a∉bk G ρ∧(∀ e∈G,e.pl.addr≠a)∧W.h0.get? a=none
theorem St.touch (x:St W F G ρ s) (hP:iA W F G ρ P) (hk:∀ b o,b∉P→s.heap.get? b=some o→s'.heap.get? b=some o):St W F G ρ s' where
 env:=x.env.imp fun e he sl hs r=>r.imp (fun v q=>q.keep fun o=>hk _ o fun m=>(hP _ m).2.2.1 e he rfl) (fun _ f=>f) fun a o c=>hk a o fun m=>c.elim (hP a m).1 fun q=>(hP a m).2.1 (hs a q)
 world:=fun b o e=>hk b o (fun m=>by rw [(hP b m).2.2.2] at e;exact nn e) (x.world b o e)
 base:=x.base
 live:=fun a f=>let ⟨o,e⟩:=x.live a f;⟨o,hk a o (fun m=>(hP a m).1 f) e⟩
 places:=x.places
 nodup:=x.nodup
 ownF:=x.ownF
 ownP:=x.ownP
 plF:=x.plF
 new:=x.new
 newP:=x.newP
 fix:=x.fix.imp fun e he v q=>q.keep fun o=>hk _ o fun m=>(hP _ m).2.2.1 e he rfl
theorem eQ.touch (y:eQ F'0 G'0 ρ0 s'0 F G ρ s) (hP:∀ a∈P,s'0.heap.get? a=none) (hk:∀ b o,b∉P→s.heap.get? b=some o→s'.heap.get? b=some o) (hg:s'.gens=s.gens) (ho:s'.os=s.os):eQ F'0 G'0 ρ0 s'0 F G ρ s' where
 gens:=hg.trans y.gens
 os:=ho.trans y.os
 mono:=y.mono
 keep:=fun b o h hn hp=>hk b o (fun m=>by rw [hP b m] at h;exact nn h) (y.keep b o h hn hp)
 freshF:=y.freshF
 freshO:=y.freshO
 lives:=fun b h=>by
  induction q:s'0.heap.get? b with
  | none=>rfl
  | some o=>
   induction z:s.heap.get? b with
   | none=>rw [y.lives b z] at q;exact nn q
   | some o'=>rw [hk b o' (fun m=>by rw [hP b m] at q;exact nn q) z] at h;exact nomatch h
 sh:=y.sh
theorem iA.step (hP:iA W F G ρ P) (y:eQ F G ρ s F' G' ρ' s') (hl:∀ a∈P,∃ o,s.heap.get? a=some o):iA W F' G' ρ' P:=fun a m=>by
 obtain ⟨h1,h2,h3,h4⟩:=hP a m
 obtain ⟨o,e⟩:=hl a m
 refine ⟨fun f=>?_,fun q=>?_,fun e' he=>?_,h4⟩
 ·rcases y.freshF a f with q | q | q
  ·exact h1 q
  ·rw [e] at q;exact nomatch q
  ·exact h2 q
 ·rcases y.freshO a q with q | q
  ·exact h2 q
  ·rw [e] at q;exact nomatch q
 ·obtain ⟨e'2,h,_,hp⟩:=xv y.sh he
  rw [← hp];exact h3 _ h
theorem iA.keep (hP:iA W F G ρ P) (y:eQ F G ρ s F' G' ρ' s') (m:a∈P) {o:Obj} (e:s.heap.get? a=some o):s'.heap.get? a=some o:=y.keep a o e (hP a m).2.1 (hP a m).2.2.1
structure cG (H:List bY) (F:Addr→Prop) (G:List bY) (ρ:Env) (s:Shared) (F':Addr→Prop) (ρ':Env) (s':Shared):Prop where
 step:eQ F G ρ s F' G ρ' s'
 pl:∀ e∈H,∀ o,s.heap.get? e.pl.addr=some o→s'.heap.get? e.pl.addr=some o
 own:∀ a∈bk G ρ',a∈bk G ρ
theorem cG.refl:cG H F G ρ s F ρ s:=⟨.refl,fun _ _ _ h=>h,fun _ h=>h⟩
theorem b2.h (y:b2 F G ρ s F' ρ' s') (hs:∀ e∈H,e∈G):cG H F G ρ s F' ρ' s':=⟨y.step,fun e he=>y.pl e (hs e he),y.own⟩
theorem cG.e (y:cG G F G ρ s F' ρ' s'):b2 F G ρ s F' ρ' s':=⟨y.step,y.pl,y.own⟩
theorem cG.trans (x:cG H F G ρ s F'1 ρ1 s₁) (y:cG H F'1 G ρ1 s₁ F'2 ρ2 s₂):cG H F G ρ s F'2 ρ2 s₂:=
 ⟨x.step.trans y.step,fun e he o h=>y.pl e he o (x.pl e he o h),fun a h=>x.own a (y.own a h)⟩
theorem cG.touch (y:cG H F'0 G ρ0 s'0 F ρ s) (hP:∀ a∈P,s'0.heap.get? a=none) (hH:∀ e∈H,∃ o,s'0.heap.get? e.pl.addr=some o) (hk:∀ b o,b∉P→s.heap.get? b=some o→s'.heap.get? b=some o) (hg:s'.gens=s.gens) (ho:s'.os=s.os):cG H F'0 G ρ0 s'0 F ρ s':=
 ⟨y.step.touch hP hk hg ho,fun e he o h=>hk _ o (fun m=>by rw [hP _ m] at h;exact nn h) (y.pl e he o h),y.own⟩
noncomputable def bQ (C:Addr):List Str→List Nm→List bY
 | []=>fun _=>[]
 | x::xs=>fun l=>match l with
  | []=>[]
  | i::is=>⟨i,.loc C x,[],.none,[]⟩::bQ C xs is
theorem ui {e:bY} {xs:List Str}:∀ {is:List Nm},e∈bQ C xs is→∃ x,x∈xs∧e.pl=.loc C x∧e.own=[]:=by
 induction xs with
 | nil=>intro is h;exact nomatch h
 | cons x xs ih=>
  intro is h
  induction is with
  | nil=>exact nomatch h
  | cons i is=>
   rcases aU.mp h with rfl | h
   ·exact ⟨_,.head _,rfl,rfl⟩
   ·obtain ⟨x,m,r⟩:=ih h;exact ⟨x,.tail _ m,r⟩
theorem iq {e:bY} {xs:List Str} {is:List Nm} (h:e∈bQ C xs is):e.pl.addr=C:=by obtain ⟨y,_,r,_⟩:=ui h;rw [r];rfl
theorem fe {xs:List Str}:∀ {is:List Nm},xs.length=is.length→(bQ C xs is).length=is.length:=by
 induction xs with
 | nil=>intro is l;rw [eC l.symm];rfl
 | cons x xs ih=>
  intro is l
  induction is with
  | nil=>exact nomatch l
  | cons i is=>exact aw (·+1) (ih (Nat.succ.inj l))
theorem uZ {xs:List Str}:∀ {is:List Nm},xs.Nodup→((bQ C xs is).map (·.pl)).Nodup:=by
 induction xs with
 | nil=>exact fun _=>cK
 | cons x xs ih=>
  intro is h
  induction is with
  | nil=>exact cK
  | cons i is=>
   have h:=cP.mp h
   refine cP.mpr ⟨fun m=>?_,ih h.2⟩
   obtain ⟨e,he,q⟩:=bo.mp m
   obtain ⟨y,hy,r,_⟩:=ui he
   exact h.1 ((dj.loc.inj (r.symm.trans q)).2▸hy)
theorem zc {h:Heap} (hn:h.Ns C fun _=>none) {xs:List Str}:∀ {is:List Nm},xs.length=is.length→hY W F h (bQ C xs is) (is.map fun x=>(x,Slot.unb)):=by
 induction xs with
 | nil=>intro is l;rw [eC l.symm];rfl
 | cons x xs ih=>
  intro is l
  induction is with
  | nil=>exact nomatch l
  | cons i is=>exact ⟨rfl,⟨_,hn,rfl⟩,ih (Nat.succ.inj l)⟩
theorem xA:∀ {is:List Nm},bk G (is.map fun x=>(x,Slot.unb))=[]:=by
 induction G with
 | nil=>intro is;induction is<;>rfl
 | cons e G ih=>intro is;induction is with
  | nil=>rfl
  | cons i is=>exact ih
theorem At {h:Heap}:∀ {is:List Nm},rh h G (is.map fun x=>(x,Slot.unb)):=by
 induction G with
 | nil=>intro is;trivial
 | cons e G ih=>intro is;induction is with
  | nil=>trivial
  | cons i is=>exact ⟨trivial,ih⟩
theorem nH {xs:List Str} {is:List Nm} (l:xs.length=is.length):bk (bQ C xs is++G) (c8 is ρ)=bk G ρ:=by
 unfold c8
 rw [ce (by rw [fe l,ba]),xA];rfl
theorem St.push (x:St W F G ρ s) {xs:List Str} {is:List Nm} (l:xs.length=is.length) (nd:xs.Nodup) (hC:s.heap.get? C=none) (hn:s'.heap.Ns C fun _=>none) (hk:∀ b o,s.heap.get? b=some o→s'.heap.get? b=some o) :
  St W F (bQ C xs is++G) (c8 is ρ) s':=by
 have hCF:¬ F C:=fun f=>by obtain ⟨o,e⟩:=x.live C f;rw [hC] at e;exact nn e
 have hC0:W.h0.get? C=none:=by
  induction e:W.h0.get? C with
  | none=>rfl
  | some o=>rw [x.world C o e] at hC;exact nomatch hC
 have adC:∀ e∈bQ C xs is,e.pl.addr=C:=fun e he=>iq he
 have neC:∀ e∈G,e.pl.addr≠C:=fun e he z=>by obtain ⟨o,h⟩:=x.env.liveP he;rw [z,hC] at h;exact nn h
 have nO:C∉bk G ρ:=fun m=>by obtain ⟨o,h⟩:=x.env.live m;rw [hC] at h;exact nn h
 have O:=nH (G:=G) (ρ:=ρ) (C:=C) l
 refine ⟨?_,fun b o e=>hk b o (x.world b o e),x.base,fun a f=>let ⟨o,e⟩:=x.live a f;⟨o,hk a o e⟩,?_,by rw [O];exact x.nodup,by rw [O];exact x.ownF,?_,?_,by rw [O];exact x.new,?_,?_⟩
 ·unfold c8
  exact (cF (by rw [fe l,ba])).mpr ⟨zc hn l,x.env.imp fun e he sl hs r=>r.imp (fun v q=>q.keep fun o=>hk _ o) (fun _ f=>f) fun a o _=>hk a o⟩
 ·rw [dJ,cD]
  refine ⟨uZ nd,x.places,fun p hp q hq e=>?_⟩
  obtain ⟨e1,m1,rfl⟩:=bo.mp hp
  obtain ⟨e2,m2,rfl⟩:=bo.mp hq
  exact neC e2 m2 (e▸adC e1 m1)
 ·rw [O];intro a ha e he z
  rcases cH.mp he with m | m
  ·exact nO (by rw [← adC e m,z];exact ha)
  ·exact x.ownP a ha e m z
 ·intro e he f
  rcases cH.mp he with m | m
  ·exact hCF (adC e m▸f)
  ·exact x.plF e m f
 ·intro e he
  rcases cH.mp he with m | m
  ·rw [adC e m];exact hC0
  ·exact x.newP e m
 ·unfold c8
  exact (cE (by rw [fe l,ba])).mpr ⟨At,x.fix.imp fun e he v q=>q.keep fun o=>hk _ o⟩
theorem St.pop (x:St W F (G'1++G) ρ s):St W F G (ρ.drop G'1.length) s:=by
 have hl:G'1.length≤ρ.length:=by have:=x.env.length;rw [bS] at this;lia
 obtain ⟨ρ1,ρ2,rfl,e1⟩:∃ ρ1 ρ2,ρ=ρ1++ρ2∧G'1.length=ρ1.length:=⟨ρ.take G'1.length,ρ.drop G'1.length,(List.take_append_drop _ _).symm,by rw [List.length_take];lia⟩
 rw [e1,List.drop_left]
 have O:bk (G'1++G) (ρ1++ρ2)=bk G'1 ρ1++bk G ρ2:=ce e1
 have sub:∀ a∈bk G ρ2,a∈bk (G'1++G) (ρ1++ρ2):=fun a ha=>by rw [O];exact dq _ ha
 have nd:=x.nodup
 rw [O] at nd
 have pn:=x.places
 rw [dJ] at pn
 exact ⟨((cF e1).mp x.env).2,x.world,x.base,x.live,(cD.mp pn).2.1,(cD.mp nd).2.1,fun a ha=>x.ownF a (sub a ha),fun a ha e he=>x.ownP a (sub a ha) e (dq _ he),fun e he=>x.plF e (dq _ he),fun a ha=>x.new a (sub a ha),fun e he=>x.newP e (dq _ he),((cE e1).mp x.fix).2⟩
theorem w3 (x:St W F (G'1++G) ρ s):∀ a∈bk G (ρ.drop G'1.length),a∈bk (G'1++G) ρ:=by
 have hl:G'1.length≤ρ.length:=by have:=x.env.length;rw [bS] at this;lia
 obtain ⟨ρ1,ρ2,rfl,e1⟩:∃ ρ1 ρ2,ρ=ρ1++ρ2∧G'1.length=ρ1.length:=⟨ρ.take G'1.length,ρ.drop G'1.length,(List.take_append_drop _ _).symm,by rw [List.length_take];lia⟩
 rw [e1,List.drop_left,ce e1]
 exact fun a ha=>dq _ ha
theorem cG.pop {xs:List Str} {is:List Nm} (x:St W F G ρ s) (l:xs.length=is.length) (hC:s.heap.get? C=none) (hk:∀ b o,s.heap.get? b=some o→s₁.heap.get? b=some o) (hg:s₁.gens=s.gens) (ho:s₁.os=s.os)
  (z:St W F' (bQ C xs is++G) ρ' s') (y:cG G F (bQ C xs is++G) (c8 is ρ) s₁ F' ρ' s'):b2 F G ρ s F' (ρ'.drop is.length) s':=by
 have O:=nH (G:=G) (ρ:=ρ) (C:=C) l
 have ln:=fe (C:=C) l
 have adC:∀ e∈bQ C xs is,e.pl.addr=C:=fun e he=>iq he
 have none':∀ a,s₁.heap.get? a=none→s.heap.get? a=none:=fun a h=>by
  induction q:s.heap.get? a with
  | none=>rfl
  | some o=>rw [hk a o q] at h;exact nomatch h
 have sub:=w3 z
 rw [ln] at sub
 have own:∀ a∈bk G (ρ'.drop is.length),a∈bk G ρ:=fun a ha=>O▸y.own a (sub a ha)
 refine ⟨⟨y.step.gens.trans hg,y.step.os.trans ho,y.step.mono,fun b o h hn hp=>y.step.keep b o (hk b o h) (O.symm▸hn) fun e he q=>?_,fun a f=>?_,fun a ha=>.inl (own a ha),fun b h=>none' b (y.step.lives b h),rfl⟩,fun e he o h=>y.pl e he o (hk _ o h),own⟩
 ·rcases cH.mp he with m | m
  ·rw [← q,adC e m,hC] at h;exact nn h
  ·exact hp e m q
 ·rcases y.step.freshF a f with q | q | q
  ·exact .inl q
  ·exact .inr (.inl (none' a q))
  ·exact .inr (.inr (O▸q))
end
end
section
noncomputable abbrev ej:Addr→Prop:=fun _=>True
theorem VR.up {h:Heap} {t:T} (x:VR W F h t v):VR W ej h t v:=x.mono (fun _ _=>trivial) fun _ _ _ e=>e
theorem bR.up {h:Heap} {t:List T} {v:List Value} (x:bR W F h t v):bR W ej h t v:=x.mono (fun _ _=>trivial) fun _ _ _ e=>e
noncomputable def dY (W:Wd) (F:Addr→Prop) (h:Heap) (t:T) (v:Value):Prop:=VR W F h t v∨∃ as,gu W F h as t v
theorem gu.q {h:Heap} {t:T} (x:gu W F h as t v):dY W F h t v:=.inr ⟨as,x⟩
theorem VR.q {h:Heap} {t:T} (x:VR W F h t v):dY W F h t v:=.inl x
section
variable {W:Wd} {F:Addr→Prop} {h:Heap} {v:Value}
theorem dY.up {t:T} (x:dY W F h t v):VR W ej h t v:=by
 rcases x with x | ⟨as,x⟩
 ·exact x.up
 ·exact x.freeze.up
noncomputable def K4 (W:Wd) (F:Addr→Prop) (h:Heap) (t:T) (v:Value):Prop:=match t with
 | .none=>v=.none
 | .bool b=>v=.bool b
 | .int i=>∃ t,v=.int i t
 | .str i=>∃ y t,v=.str y t∧bp i y
 | .tup xs=>∃ vs a n,v=.ref a∧h.get? a=some (seqObj "tuple" vs.toArray n)∧xs.length≤SZ∧bR W F h xs vs
 | .list xs=>∃ vs a n,v=.ref a∧h.get? a=some (seqObj "list" vs.toArray n)∧xs.length≤SZ∧bR W F h xs vs
 | .dict kvs=>∃ es a ep,v=.ref a∧h.get? a=some (aL es ep)∧kvs.length≤SZ∧(kvs.map (·.1)).Nodup∧(a==sysModules)=false∧cM W F h kvs es
 | .dvals kvs=>∃ es a d ep,v=.ref a∧h.get? a=some ⟨.type "dict_values",Option.none,.fields #[.ref d],#[]⟩∧h.get? d=some (aL es ep)∧kvs.length≤SZ∧cM W F h kvs es
 | .set xs=>∃ a,v=.ref a∧xs.length≤SZ∧lW W h a xs
 | .rng n=>∃ a u v' z,v=.ref a∧PySem.IsRange h a 0 n 1 u v' z∧n≤SZ
 | .inst c fs=>∃ es a dx ep,v=.ref a∧h.get? a=some (instObj (W.ca c) dx)∧h.get? dx=some (aL es ep)∧fs.length≤100∧j3 W F h fs es
theorem cM.of (e:kvs.length=es.length) (r1:∀ (i:Nat) p e,kvs[i]? = some p→es[i]? = some e→VR W F h (cf p.1) e.key) (r2:∀ (i:Nat) p e,kvs[i]? = some p→es[i]? = some e→e.hash=eW W p.1) (r3:∀ (i:Nat) p e,kvs[i]? = some p→es[i]? = some e→VR W F h p.2 e.val):cM W F h kvs es:=bP.of e fun i p e a b=>⟨r1 i p e a b,r2 i p e a b,r3 i p e a b⟩
theorem VR.view {t:T} (x:VR W F h t v):K4 W F h t v:=by
 cases x with
 | none=>exact rfl
 | bool b=>exact rfl
 | int i t=>exact ⟨t,rfl⟩
 | str t n=>exact ⟨_,t,rfl,n⟩
 | tup_ f g l e r=>exact ⟨_,_,_,rfl,g,l,bP.of e r⟩
 | list_ f g l e r=>exact ⟨_,_,_,rfl,g,l,bP.of e r⟩
 | dict_ f g l n e r1 r2 r3=>exact ⟨_,_,_,rfl,g,l,n.1,n.2,cM.of e r1 r2 r3⟩
 | dvals_ f g f' g' l e r1 r2 r3=>exact ⟨_,_,_,_,rfl,g,g',l,cM.of e r1 r2 r3⟩
 | set f l r=>exact ⟨_,rfl,l,r⟩
 | rng f r b c t l=>subst b;subst c;subst t;exact ⟨_,_,_,_,rfl,r,l⟩
 | inst_ f f' g g' l e r1 r2=>exact ⟨_,_,_,_,rfl,g,g',l,bP.of e fun i p e a b=>⟨r1 i p e a b,r2 i p e a b⟩⟩
theorem gu.view {t:T} (x:gu W F h as t v):K4 W F h t v:=by
 cases x with
 | list e g l r=>exact ⟨_,_,_,rfl,g,l,r⟩
 | dict e g l n r=>exact ⟨_,_,_,rfl,g,l,n.1,n.2,r⟩
 | inst e g g' l r=>exact ⟨_,_,_,_,rfl,g,g',l,r⟩
theorem dY.view {t:T} (x:dY W F h t v):K4 W F h t v:=x.elim VR.view fun x=>x.elim fun _=>gu.view
theorem VR.rootF {t:T} (x:VR W F h t v) (e:v=.ref a):F a:=by
 cases x with
 | none | bool | int | str=>exact nomatch e
 | tup_ f | list_ f | dict_ f | dvals_ f | set f | rng f | inst_ f=>exact Value.ref.inj e▸f
theorem dY.list_inv (x:dY W F h (.list xs) v):∃ vs a n,v=.ref a∧h.get? a=some (seqObj "list" vs.toArray n)∧xs.length≤SZ∧bR W F h xs vs:=x.view
theorem dY.tup_inv (x:dY W F h (.tup xs) v):∃ vs a n,v=.ref a∧h.get? a=some (seqObj "tuple" vs.toArray n)∧xs.length≤SZ∧bR W F h xs vs:=x.view
theorem dY.dict_inv (x:dY W F h (.dict kvs) v):∃ es a ep,v=.ref a∧h.get? a=some (aL es ep)∧kvs.length≤SZ∧(kvs.map (·.1)).Nodup∧(a==sysModules)=false∧cM W F h kvs es:=x.view
theorem dY.inst_inv {c:Nat} {fs:List (Nat×T)} (x:dY W F h (.inst c fs) v):∃ es a dx ep,v=.ref a∧h.get? a=some (instObj (W.ca c) dx)∧h.get? dx=some (aL es ep)∧fs.length≤100∧j3 W F h fs es:=x.view
theorem dY.int_inv {i:Int} (x:dY W F h (.int i) v):∃ t,v=.int i t:=x.view
theorem dY.bool_inv {b:Bool} (x:dY W F h (.bool b) v):v=.bool b:=x.view
theorem dY.none_inv (x:dY W F h .none v):v=.none:=x.view
theorem dY.str_inv (x:dY W F h (.str i) v):∃ y t,v=.str y t∧bp i y:=x.view
theorem dY.set_inv {xs:List Int} (x:dY W F h (.set xs) v):∃ a,v=.ref a∧xs.length≤SZ∧lW W h a xs:=x.view
theorem dY.rng_inv (x:dY W F h (.rng n) v):∃ a u v' z,v=.ref a∧PySem.IsRange h a 0 n 1 u v' z∧n≤SZ:=x.view
theorem dY.dvals_inv (x:dY W F h (.dvals kvs) v):∃ es a d ep,v=.ref a∧h.get? a=some ⟨.type "dict_values",Option.none,.fields #[.ref d],#[]⟩∧h.get? d=some (aL es ep)∧kvs.length≤SZ∧cM W F h kvs es:=x.view
theorem VR.list_inv (x:VR W F h (.list xs) v):∃ vs a n,v=.ref a∧F a∧h.get? a=some (seqObj "list" vs.toArray n)∧xs.length≤SZ∧bR W F h xs vs:=
 let ⟨vs,a,n,e,r⟩:=x.q.list_inv
 ⟨vs,a,n,e,x.rootF e,r⟩
theorem VR.refF {t:T} (x:VR W F h t (.ref a)):F a:=x.rootF rfl
theorem VR.dvF {d:Addr} (x:VR W F h (.dvals kvs) (.ref a)) (g:h.get? a=some ⟨.type "dict_values",Option.none,.fields #[.ref d],#[]⟩):F d:=by
 cases x with | dvals_ f g1 f'=>rw [← show _=d from Value.ref.inj (List.cons.inj (Array.mk.inj (Data.fields.inj (Obj.mk.inj (az (g1.symm.trans g))).2.2.1))).1];exact f'
theorem VR.tup_inv (x:VR W F h (.tup xs) v):∃ vs a n,v=.ref a∧F a∧h.get? a=some (seqObj "tuple" vs.toArray n)∧xs.length≤SZ∧bR W F h xs vs:=
 let ⟨vs,a,n,e,r⟩:=x.q.tup_inv
 ⟨vs,a,n,e,x.rootF e,r⟩
end
theorem qG {c:String} {m:Nat} (e:seqObj c vs.toArray n=seqObj c us.toArray m):vs=us:=by
 exact aw Array.toList (Data.seq.inj (aw Obj.data e)).1
section
variable {W:Wd} {h:Heap}
mutual
theorem qU:∀ {a b:T} {v:Value} {r:Bool},z0 a b=some r→VR W ej h a v→VR W ej h b v→r=true:=by
 intro a b v r e x y
 cases a with
 | none=>exact ifs e fun _ z=>z
 | bool p=>exact eT e fun q h1 z=>z.trans (bm.mpr (Value.bool.inj (x.q.bool_inv.symm.trans (ux h1▸y).q.bool_inv)))
 | int p=>
  exact eT e fun q h1 z=>z.trans (br (by
   obtain ⟨t,h2⟩:=x.q.int_inv
   obtain ⟨u,h3⟩:=(cC h1▸y).q.int_inv
   exact (Value.int.inj (h2.symm.trans h3)).1))
 | str p=>
  exact eT e fun q h1 z=>z.trans (br (by
   obtain ⟨x1,t,h2,n⟩:=x.q.str_inv
   obtain ⟨x2,u,h3,n'⟩:=(yF h1▸y).q.str_inv
   exact n.inj ((Value.str.inj (h2.symm.trans h3)).1▸n')))
 | tup xs=>exact dw e fun ys h1 z=>x.tup_inv.elim fun vs ⟨a,n,h2,_,g,_,r1⟩=>(rj h1▸y).tup_inv.elim fun us ⟨a',n',h3,_,g',_,r2⟩=>oa z r1 (qG (az (g'.symm.trans (Value.ref.inj (h2.symm.trans h3)▸g)))▸r2)
 | list xs=>
  exact dw e fun ys h1 z=>x.list_inv.elim fun vs ⟨a,n,h2,_,g,_,r1⟩=>(et h1▸y).list_inv.elim fun us ⟨a',n',h3,_,g',_,r2⟩=>by
   have r2:=qG (az (g'.symm.trans (Value.ref.inj (h2.symm.trans h3)▸g)))▸r2
   rw [au (r1.length.trans r2.length.symm)] at z
   exact oa z r1 r2
 | dict _=>exact nn e
 | set _=>exact nn e
 | dvals _=>exact nn e
 | rng _=>exact nn e
 | inst _ _=>exact nn e
theorem oa:∀ {xs ys:List T} {vs:List Value} {r:Bool},wh xs ys=some r→bR W ej h xs vs→bR W ej h ys vs→r=true:=by
 intro xs ys vs r e x y
 cases xs with
 | nil=>
  cases ys with
  | nil=>exact (az e).symm
  | cons b ys=>rw [x.inv0] at y;exact nomatch y.inv
 | cons a xs=>
  cases ys with
  | nil=>rw [y.inv0] at x;exact nomatch x.inv
  | cons b ys=>
   obtain ⟨v,vs,x1,x2⟩:=x.inv
   obtain ⟨_,_,y1,y2⟩:=y.inv
   exact dw e fun p hp e=>eT e fun q hq z=>by rw [z,qU hp x1 y1,oa hq x2 y2];rfl
end
end
open SeqAt
set_option tactic.hygienic true in
theorem EqAt.of_rc {a b:Value} {r:Bool} (h:RcAt A s a b r) (he:a=b→r=true) (hf:∀ x t y u,(a,b)≠(.float x t,.float y u)):EqAt A s a b r:=by
 by_cases q:a=b
 ·subst q;rw [he rfl];exact EqAt.same a
 ·intro prog w E Q hq
  unfold eqBool
  refine b5 (wpAny_ite_split (fun hab=>absurd (eq_of_beq hab) q) fun _=>?_)
  split
  ·rename_i x t y u e;exact absurd e (hf x t y u)
  ·exact ac (h prog w E _ (wpAny_truthy_bool hq))
theorem pA {h:Heap} (g:h.get? a=some (seqObj "list" vs.toArray n)):h.IsList a vs.toArray:=⟨_,g,rfl,_,rfl⟩
theorem JM {h:Heap} (g:h.get? a=some (seqObj "tuple" vs.toArray n)):h.IsTuple a vs.toArray:=⟨_,g,rfl,_,rfl⟩
theorem A2 {h:Heap} (g:h.get? a=some (seqObj "tuple" vs.toArray n)):IsTup h a vs.toArray:=⟨_,g,rfl,_,rfl⟩
theorem VR.noFloat {h:Heap} {t:T} (x:VR W F h t v) (a:UInt64) (u:Tok):v≠.float a u:=by intro e;subst e;exact nomatch x
section
variable {W:Wd}
inductive vJ (A:Around) (s:Shared) (vs us:List Value) (r:Bool):Prop where
 | mk (e:Nat→Bool) (h1:∀ j (h1:j < vs.length) (h2:j < us.length),EqAt A s vs[j] us[j] (e j)) (h2:((List.range (min vs.length us.length)).all e&&vs.length==us.length)=r)
theorem vJ.tups {r:Bool} {a':Addr} (x:vJ A.in1 s vs us r) (g:s.heap.IsTuple a vs.toArray) (g':s.heap.IsTuple a' us.toArray) (hu:A.units < cLine):RcAt A s (.ref a) (.ref a') r∧RcNeAt A s (.ref a) (.ref a') (!r):=by
 obtain ⟨f,h1,h2⟩:=x
 subst h2
 exact ⟨RcAt.tuples g g' hu h1,RcNeAt.tuples g g' hu h1⟩
theorem vJ.lists {r:Bool} {a':Addr} (x:vJ A.in1 s vs us r) (g:s.heap.IsList a vs.toArray) (g':s.heap.IsList a' us.toArray) (hl:vs.length=us.length) (hu:A.units < cLine):RcAt A s (.ref a) (.ref a') r∧RcNeAt A s (.ref a) (.ref a') (!r):=by
 obtain ⟨f,h1,h2⟩:=x
 rw [hl,Nat.min_self,beq_self_eq_true,Bool.and_true,← hl] at h2
 subst h2
 exact ⟨RcAt.lists g g' hl hu h1,RcNeAt.lists g g' hl hu h1⟩
theorem vJ.cons {u:Value} {p q:Bool} (hd:EqAt A s v u p) (x:vJ A s vs us q):vJ A s (v::vs) (u::us) (p&&q):=by
 obtain ⟨f,h1,h2⟩:=x
 refine ⟨fun j=>Nat.casesOn j p f,fun j l1 l2=>?_,?_⟩
 ·cases j with
  | zero=>exact hd
  | succ j=>exact h1 j (Nat.lt_of_succ_lt_succ l1) (Nat.lt_of_succ_lt_succ l2)
 ·rw [← h2,eF,eF,Nat.succ_min_succ,List.range_succ_eq_map,List.all_cons,List.all_map,Bool.and_assoc]
  exact aw (fun b=>p&&(_&&b)) (Bool.eq_iff_iff.mpr (by simp))
mutual
theorem y4:∀ {a b:T} {A:Around} {s:Shared} {va vb:Value} {r:Bool},z0 a b=some r→VR W ej s.heap a va→VR W ej s.heap b vb→A.units+depth a < cLine→RcAt A s va vb r∧RcNeAt A s va vb (!r):=by
 intro a b A s va vb r e x y hu
 cases a with
 | none=>exact ifs e fun h z=>by have y':VR W ej s.heap .none vb:=nB h▸y;rw [z,x.q.none_inv,y'.q.none_inv];exact ⟨RcAt.none_none,RcNeAt.none_none⟩
 | bool p=>exact eT e fun q h z=>by have y':VR W ej s.heap (.bool q) vb:=ux h▸y;rw [z,x.q.bool_inv,y'.q.bool_inv];exact ⟨RcAt.bool_bool _ _,RcNeAt.bool_bool _ _⟩
 | int p=>
  exact eT e fun q h z=>by
   obtain ⟨t,h1⟩:=x.q.int_inv;obtain ⟨u,h2⟩:=(cC h▸y).q.int_inv
   rw [z,h1,h2];exact ⟨RcAt.int_int _ _ _ _,RcNeAt.int_int _ _ _ _⟩
 | str p=>
  exact eT e fun q h z=>by
   obtain ⟨x1,t,h1,n⟩:=x.q.str_inv;obtain ⟨x2,u,h2,n'⟩:=(yF h▸y).q.str_inv
   have hz:(x1==x2)=decide (p=q):=Bool.eq_iff_iff.mpr (bm.trans ((Iff.intro (fun k=>n.inj (k▸n')) fun k=>by subst k;exact n.fn n').trans decide_eq_true_iff.symm))
   rw [z,h1,h2,← hz]
   exact ⟨RcAt.str_str _ _ _ _,RcNeAt.str_str _ _ _ _⟩
 | tup xs=>
  exact dw e fun ys h1 z=>by
   obtain ⟨vs,a,n,h2,_,g,_,r1⟩:=x.tup_inv;obtain ⟨us,a',n',h3,_,g',_,r2⟩:=(rj h1▸y).tup_inv
   rw [h2,h3]
   exact (uI z r1 r2 (A:=A.in1) (by rw [Around.in1_units,Nat.add_assoc,Nat.add_comm 1];exact hu)).tups (JM g) (JM g') (eD (Nat.le_add_right _ _) hu)
 | list xs=>
  exact dw e fun ys h1 z=>by
   obtain ⟨vs,a,n,h2,_,g,_,r1⟩:=x.list_inv;obtain ⟨us,a',n',h3,_,g',_,r2⟩:=(et h1▸y).list_inv
   have hu':A.units < cLine:=eD (Nat.le_add_right _ _) hu
   rw [h2,h3]
   by_cases q:xs.length=ys.length
   ·rw [au q] at z
    exact (uI z r1 r2 (A:=A.in1) (by rw [Around.in1_units,Nat.add_assoc,Nat.add_comm 1];exact hu)).lists (pA g) (pA g') (r1.length.symm.trans (q.trans r2.length)) hu'
   ·rw [av q] at z
    have q':(vs.toArray.size != us.toArray.size)=true:=bne_iff_ne.mpr fun k=>q (r1.length.trans (k.trans r2.length.symm))
    rw [← az z]
    exact ⟨RcAt.lists_lengths (pA g) (pA g') q' hu',RcNeAt.lists_lengths (pA g) (pA g') q' hu'⟩
 | dict _=>exact nn e
 | set _=>exact nn e
 | dvals _=>exact nn e
 | rng _=>exact nn e
 | inst _ _=>exact nn e
theorem uI:∀ {xs ys:List T} {A:Around} {s:Shared} {vs us:List Value} {r:Bool},wh xs ys=some r→bR W ej s.heap xs vs→bR W ej s.heap ys us→A.units+ql xs < cLine→vJ A s vs us r:=by
 intro xs ys A s vs us r e x y hu
 cases xs with
 | nil=>
  cases ys with
  | nil=>rw [x.inv0,y.inv0,← az e];exact ⟨fun _=>true,fun j h1=>absurd h1 (Nat.not_lt_zero _),rfl⟩
  | cons b ys=>obtain ⟨_,_,_,_⟩:=y.inv;rw [x.inv0,← az e];exact ⟨fun _=>true,fun j h1=>absurd h1 (Nat.not_lt_zero _),Bool.and_false _⟩
 | cons a xs=>
  cases ys with
  | nil=>obtain ⟨_,_,_,_⟩:=x.inv;rw [y.inv0,← az e];exact ⟨fun _=>true,fun j _ h2=>absurd h2 (Nat.not_lt_zero _),Bool.and_false _⟩
  | cons b ys=>
   obtain ⟨v,vs,x1,x2⟩:=x.inv
   obtain ⟨u,us,y1,y2⟩:=y.inv
   exact dw e fun p hp e=>eT e fun q hq z=>z▸vJ.cons (EqAt.of_rc (y4 hp x1 y1 (eD (Nat.add_le_add_left (Nat.le_max_left _ _) _) hu)).1 (fun z=>qU hp x1 (z▸y1)) fun a t b u z=>x1.noFloat a t (aw Prod.fst z)) (uI hq x2 y2 (eD (Nat.add_le_add_left (Nat.le_max_right _ _) _) hu))
end
theorem Fu {a b:T} {r:Bool} (e:z0 a b=some r) (x:VR W ej s.heap a va) (y:VR W ej s.heap b vb) (hu:A.units+depth a < cLine):EqAt A s va vb r:=
 EqAt.of_rc (y4 e x y hu).1 (fun z=>by subst z;exact qU e x y) fun a t b u z=>x.noFloat a t (aw Prod.fst z)
end
inductive fG (W:Wd) (F:Addr→Prop) (s:Shared) (t:T) (v:Value) (s':Shared):Prop where
 | mk (F':Addr→Prop) (h1:b9 F s F' s') (h2:VR W F' s'.heap t v)
inductive mh (W:Wd) (F:Addr→Prop) (s:Shared) (t:T) (v:Value) (s':Shared):Prop where
 | mk (as:List Addr) (h1:b9 F s F s') (h2:gu W F s'.heap as t v) (h3:as.Nodup) (h4:(∀ a∈as,s.heap.get? a=none))
theorem mh.res {t:T} (x:mh W F s t v s'):fG W F s t v s':=by
 obtain ⟨as,g,r,_,n⟩:=x
 exact ⟨_,g.add n fun a ha=>r.live ha,r.freeze⟩
section
variable {W:Wd} {F:Addr→Prop} {s:Shared}
theorem fG.of_toks {t:T} {tk:Nat} (x:VR W F s.heap t v):fG W F s t v { s with toks:=tk }:=⟨F,b9.toks F tk,x⟩
theorem fG.of_same {t:T} (x:VR W F s.heap t v):fG W F s t v s:=⟨F,b9.refl F s,x⟩
theorem mh.list {tk:Nat} (r:bR W F s.heap xs vs) (l:xs.length≤SZ):mh W F s (.list xs) (.ref s.heap.objs.size) { s with heap:=s.heap.push (seqObj "list" vs.toArray n),toks:=tk }:=
 ⟨[s.heap.objs.size],b9.push F _ tk,.list rfl (dG _ rfl) l (r.grow (s':={ s with heap:=s.heap.push (seqObj "list" vs.toArray n),toks:=tk }) (b9.push F _ tk)),by simp,fun a h=>by rw [aV.mp h];exact aS _⟩
theorem fG.tup {tk:Nat} (r:bR W F s.heap xs vs) (l:xs.length≤SZ):fG W F s (.tup xs) (.ref s.heap.objs.size) { s with heap:=s.heap.push (seqObj "tuple" vs.toArray n),toks:=tk }:=
 ⟨fun a=>F a∨a∈[s.heap.objs.size],(b9.push F _ tk).add (fun a h=>by rw [aV.mp h];exact aS _) (fun a h=>by rw [aV.mp h];exact ⟨_,dG _ rfl⟩),
  .tup (.inr (by simp)) (dG _ rfl) l (r.mono (fun _=>.inl) fun a o _ e=>bU _ e)⟩
theorem dY.tup_vr {h:Heap} (x:dY W F h (.tup xs) v):VR W F h (.tup xs) v:=by
 rcases x with x | ⟨as,x⟩
 ·exact x
 ·exact (nomatch x)
end
section
variable {W:Wd} {F:Addr→Prop} {s:Shared} {A:Around} {E:Value→Shared→Prop}
theorem qA {a:Int} (h:small a=true):Builtin.Int.intBits a≤64:=by
 unfold small at h
 have:=bH h
 exact intBits_le_64 (by lia) (by lia)
theorem Eu {op:Operator} {a b:Int} {t:T} {u v:Tok} (e:NV a b op=some t):wpAny (model W.prog W.w) A (binaryOp op (.int a u) (.int b v)) (fG W F s t) E s:=by
 refine cps fun G k=>?_
 cases op
 case Add=>refine k ?_;rw [← az e];exact P.add_int (.of_toks (.int _ _))
 case Sub=>refine k ?_;rw [← az e];exact P.sub_int (.of_toks (.int _ _))
 case Mult=>exact ifs e fun z te=>k (te▸P.mul_int (.of_toks (.int _ _)) ((Bool.or_eq_true_iff.mp z).elim (fun z=>IntMulOk.of_left (qA z)) fun z=>IntMulOk.of_right (qA z)))
 case FloorDiv=>exact ifs e fun z te=>k (te▸floordiv_int (Int.ne_of_gt z.1) (by rw [Int.fdiv_eq_ediv_of_nonneg _ (Int.le_of_lt z.1)];exact .of_toks (.int _ _)) (.inl (PyProof.noPylong_small (by lia))))
 case Mod=>exact ifs e fun z te=>k (te▸mod_int' (Int.ne_of_gt z) (by rw [Int.fmod_eq_emod_of_nonneg _ (Int.le_of_lt z)];exact .of_toks (.int _ _)))
 case Pow=>
  exact ifs e fun z te=>k (te▸(by
   have z2:=cB.mp z
   have z3:=cB.mp z2.1
   exact pow_int_small (bH z3.2) (Int.le_trans (bH z2.2) (by decide)) (bH z3.1) (.of_toks (.int _ _))))
 case BitAnd=>
  exact ifs e fun z te=>k (te▸(by
   obtain ⟨rfl,z⟩:=z
   refine and_int (by
    rw [show Builtin.bitAnd 0 b=0 by unfold Builtin.bitAnd;rw [br (show (0:Int)≤0 from Int.le_refl _),br z];simp]
    exact .of_toks (.int _ _))))
 all_goals exact nn e
theorem JG {a t:T} (e:NB a=some t) (x:VR W F s.heap a v):wpAny (model W.prog W.w) A (unaryOp .USub v) (fG W F s t) E s:=by
 exact eT (f:=fun a=>T.int (-a)) (o:=f6 a) (by cases a<;>first | exact e | exact nn e) fun i h z=>by
  obtain ⟨u,rfl⟩:=(cC h▸x).q.int_inv
  rw [z];exact P.neg_int (.of_toks (.int _ _))
end
end
section
theorem gG:SZ≤sizeLine:=by rw [sizeLine_eq];decide
theorem Nl:SZ < sizeLine:=by rw [sizeLine_eq];decide
section
variable {W:Wd} {F:Addr→Prop} {s:Shared} {A:Around} {E:Value→Shared→Prop}
theorem EL {ys:List T} (x:VR W F s.heap (.tup xs) va) (y:VR W F s.heap (.tup ys) vb) (l:xs.length+ys.length≤SZ):wpAny (model W.prog W.w) A (binaryOp .Add va vb) (fG W F s (.tup (xs++ys))) E s:=by
 obtain ⟨vs,a,n,rfl,fa,g,_,r1⟩:=id x.tup_inv
 obtain ⟨us,b,n',rfl,fb,g',_,r2⟩:=id y.tup_inv
 have l1:=r1.length
 have l2:=r2.length
 by_cases e1:vs=[]
 ·subst e1
  have:xs=[]:=List.length_eq_zero_iff.mp (by simpa using l1)
  subst this
  exact concat_meets ⟨_,g,rfl⟩ ⟨_,g',rfl⟩ noFill_tuple_add seq_tuple_add PySem.F.slot_tuple_add PySem.F.entry_tuple_add (PySem.F.args_tuple_add_2 _ _) (tuple_addW0 a b #[] us.toArray n n' none none #[] #[] rfl) ⟨g,g',fG.of_same y⟩
 ·by_cases e2:us=[]
  ·subst e2
   have:ys=[]:=List.length_eq_zero_iff.mp (by simpa using l2)
   subst this
   rw [cr]
   exact concat_meets ⟨_,g,rfl⟩ ⟨_,g',rfl⟩ noFill_tuple_add seq_tuple_add PySem.F.slot_tuple_add PySem.F.entry_tuple_add (PySem.F.args_tuple_add_2 _ _) (tuple_addW1 a b vs.toArray #[] n n' none none #[] #[] (by simpa using e1) rfl) ⟨g,g',fG.of_same x⟩
  ·refine P.add_tuple g g' (by simpa using e1) (by simpa using e2) ?_ (by simp only [cO];have:=gG;lia)
   rw [show vs.toArray++us.toArray=(vs++us).toArray by simp]
   exact fG.tup (tk:=s.toks) (n:=0) (r1.append r2) (by rw [bS];exact l)
theorem y5 {ys:List T} (x:dY W F s.heap (.list xs) va) (y:dY W F s.heap (.list ys) vb) (l:xs.length+ys.length≤SZ):wpAny (model W.prog W.w) A (binaryOp .Add va vb) (mh W F s (.list (xs++ys))) E s:=by
 obtain ⟨vs,a,n,rfl,g,_,r1⟩:=x.list_inv
 obtain ⟨us,b,n',rfl,g',_,r2⟩:=y.list_inv
 have l1:=r1.length
 have l2:=r2.length
 refine P.add_list g g' ?_ (by simp only [cO];have:=gG;lia)
 rw [show vs.toArray++us.toArray=(vs++us).toArray by simp]
 exact mh.list (tk:=s.toks) (n:=0) (r1.append r2) (by rw [bS];exact l)
end
section
variable {W:Wd}
theorem OM {i j:Int} {u:Tok}:(intKind W.prog W.w).is i (.int j u)=decide (bK.I j=bK.I i):=by
 by_cases q:j=i
 ·subst q;simp [intKind,Value.isInt]
 ·simp [intKind,Value.isInt,q]
theorem tX {i:Int} {u:Tok}:(intKind W.prog W.w).is i (.int i u)=true:=by rw [OM];exact br rfl
theorem z8 {x:Str} {u:Tok}:(PySem.strKind W.prog W.w).is x (.str x u)=true:=by simp [PySem.strKind,Value.isStrOf]
theorem Pl {j:Nat} {x y:Str} {u:Tok} (hx:bp i x) (hy:bp j y):(PySem.strKind W.prog W.w).is x (.str y u)=decide (bK.S j=bK.S i):=by
 by_cases q:j=i
 ·subst q;rw [hx.fn hy,z8,br rfl]
 ·have:x≠y:=fun z=>q (hy.inj (z▸hx))
  simp [PySem.strKind,Value.isStrOf,q,Ne.symm this,this]
theorem Ee {h:Heap}:∀ {vs:List Value},bR W ej h (ks.map .int) vs→ItemsAre (intKind W.prog W.w) ks vs:=by
 induction ks with
 | nil=>intro vs x;rw [x.inv0];exact .nil
 | cons k ks ih=>
  intro vs x
  obtain ⟨v,vs,a,r⟩:=bR.inv (t:=.int k) (ts:=ks.map .int) x
  obtain ⟨t,h⟩:=a.q.int_inv
  rw [h];exact .cons tX (ih r)
theorem jp {h:Heap} (x:VR W ej h (.tup (ks.map .int)) (.ref a)):IsTupleKey (intKind W.prog W.w) h ks a:=by
 obtain ⟨vs,a',n,e,_,g,_,r⟩:=x.tup_inv
 cases e
 exact ⟨_,_,_,g,rfl,rfl,by simpa using Ee r⟩
theorem Nf {a b:bK} (h:cf a=cf b):a=b:=by
 induction a with
 | I a=>induction b with
  | I b=>exact aw bK.I (T.int.inj h)
  | _=>exact nomatch h
 | S a=>induction b with
  | S b=>exact aw bK.S (T.str.inj h)
  | _=>exact nomatch h
 | T a=>induction b with
  | T b=>exact aw bK.T ((List.map_inj_right (fun _ _ h=>T.int.inj h)).mp (T.tup.inj h))
  | _=>exact nomatch h
theorem ew:∀ {ks:List Int},cZ xs=some ks→xs=ks.map .int:=by
 induction xs with
 | nil=>intro ks e;rw [← az e];rfl
 | cons x xs ih=>intro ks e;exact dw e fun i h1 e=>eT e fun l h2 z=>by rw [z,cC h1,ih h2];rfl
theorem tN {h:Heap} {l:List Int}:∀ {vs:List Value},bR W F h (l.map .int) vs→IntsAre vs l:=by
 induction l with
 | nil=>intro vs r;rw [r.inv0];exact .nil
 | cons i l ih=>
  intro vs r
  obtain ⟨v,vs,x,r2⟩:=bR.inv (t:=.int i) (ts:=l.map .int) r
  obtain ⟨u,rfl⟩:=x.q.int_inv
  exact .cons i u (ih r2)
theorem we {h:Heap} (e:cZ xs=some ks) (r:bR W F h xs vs):IntsAre vs ks:=tN (ew e▸r)
theorem wc {h:Heap} (x:IntsAre vs ks):bR W F h (ks.map .int) vs:=by
 induction x with
 | nil=>exact .nil
 | cons k t r ih=>exact .cons (.int k t) ih
theorem gH {t:T} (e:fO t=some k):t=cf k:=by
 cases t with
 | int i=>rw [← az e];rfl
 | str i=>rw [← az e];rfl
 | tup xs=>exact eT e fun l h z=>by rw [z,ew h];rfl
 | _=>exact nn e
theorem cM.mem {h:Heap}:∀ {es:List DictEntry},cM W F h kvs es→∀ {e:DictEntry},e∈es→∃ k t,(k,t)∈kvs∧VR W F h (cf k) e.key∧e.hash=eW W k∧VR W F h t e.val:=by
 induction kvs with
 | nil=>intro es x e he;rw [x.inv0] at he;exact nomatch he
 | cons p kvs ih=>
  intro es x e he
  obtain ⟨e',es,a,b,c,r⟩:=cM.inv (k:=p.1) (t:=p.2) x
  rcases aU.mp he with rfl | he
  ·exact ⟨_,_,.head _,a,b,c⟩
  ·obtain ⟨k,t,h1,h2⟩:=ih r he;exact ⟨k,t,.tail _ h1,h2⟩
theorem cM.at {h:Heap}:∀ {es:List DictEntry},cM W F h kvs es→∀ {i:Nat} {k:bK} {t:T},kvs[i]? = some (k,t)→∃ e,es[i]? = some e∧VR W F h (cf k) e.key∧e.hash=eW W k∧VR W F h t e.val:=by
 induction kvs with
 | nil=>intro es x i k t e;rw [List.getElem?_nil] at e;exact (nomatch e)
 | cons p kvs ih=>
  intro es x i k t e
  obtain ⟨e',es,a,b,c,r⟩:=cM.inv (k:=p.1) (t:=p.2) x
  induction i with
  | zero=>obtain rfl:=az e;exact ⟨_,rfl,a,b,c⟩
  | succ i=>exact ih r e
theorem cM.up {h:Heap} (x:cM W F h kvs es):cM W ej h kvs es:=x.mono (fun _ _=>trivial) fun _ _ _ e=>e
noncomputable def Pn:Value→Option Addr | .ref a=>some a | _=>none
noncomputable def rowsH:List (bK×T)→List DictEntry→List (List Int×Addr×Value)
 | []=>fun _=>[]
 | p::kvs=>fun l=>match l with
  | []=>[]
  | e::es=>(Il p.1).elim [] fun ks=>(Pn e.key).elim [] fun a=>(ks,a,e.val)::rowsH kvs es
structure Nr (W:Wd) (h:Heap) (kvs:List (bK×T)) (es:List DictEntry):Prop where
 h1:es=(rowsH kvs es).map (entryOfKey (tupleKind (intKind W.prog W.w)))
 h2:∀ x∈rowsH kvs es,(tupleKind (intKind W.prog W.w)).is h x.1 x.2.1
 h3:(rowsH kvs es).map (fun x=>bK.T x.1)=kvs.map (·.1)
theorem K3 (h:k.kind=2):∃ i,k=.T i:=by induction k<;>first | exact ⟨_,rfl⟩ | exact nomatch h
theorem cM.rowsH {h:Heap}:∀ {es:List DictEntry},cM W F h kvs es→(∀ p∈kvs,p.1.kind=2)→Nr W h kvs es:=by
 induction kvs with
 | nil=>intro es x _;rw [x.inv0];exact ⟨rfl,fun _ h=>(nomatch h),rfl⟩
 | cons p kvs ih=>
  obtain ⟨k,t⟩:=p
  intro es x hk
  obtain ⟨e,es,a,b,c,r⟩:=x.inv
  have h:=ih r fun p hp=>hk p (.tail _ hp)
  obtain ⟨ks,rfl⟩:=K3 (hk (k,t) (.head _))
  obtain ⟨hash,key,val⟩:=e
  obtain ⟨vs,ad,n,e2,_⟩:=a.tup_inv
  obtain rfl:key=.ref ad:=e2
  obtain rfl:hash=eW W (.T ks):=b
  refine ⟨aw (List.cons _) h.h1,fun x hx=>?_,aw (List.cons _) h.h3⟩
  rcases aU.mp hx with rfl | hx
  ·exact jp a.up
  ·exact h.h2 x hx
variable {s:Shared} {A:Around} {E:Value→Shared→Prop}
theorem Ic (h:tZ k kvs=true):∀ p∈kvs,p.1.kind=k.kind:=fun p hp=>by
 have:=aY.mp h p hp
 exact bm.mp this
theorem EP (h:k.kind=0):∃ i,k=.I i:=by induction k<;>first | exact ⟨_,rfl⟩ | exact nomatch h
theorem C2 (h:k.kind=1):∃ i,k=.S i:=by induction k<;>first | exact ⟨_,rfl⟩ | exact nomatch h
theorem Bv {l:List (List Int×Addr×Value)}:(∀ (j:Nat) (p:Addr×Value),l[j]?≠some (ks,p))→(l.map fun x=>bK.T x.1).findIdx? (fun x=>decide (x=bK.T ks))=none:=by
 intro h
 rw [List.findIdx?_eq_none_iff]
 intro x hx
 obtain ⟨y,hy,rfl⟩:=bo.mp hx
 refine decide_eq_false fun e=>?_
 obtain ⟨j,hj⟩:=List.mem_iff_getElem?.mp hy
 cases e
 exact h j y.2 hj
theorem yi {l:List (List Int×Addr×Value)} {j:Nat} {p:Addr×Value} (hn:(l.map fun x=>bK.T x.1).Nodup) (hj:l[j]? = some (ks,p)):(l.map fun x=>bK.T x.1).findIdx? (fun x=>decide (x=bK.T ks))=some j:=by
 obtain ⟨hlt,he⟩:=hM.mp hj
 rw [List.findIdx?_eq_some_iff_getElem]
 refine ⟨by simpa using hlt,by simp [he],fun i hi=>?_⟩
 simp only [List.getElem_map,decide_eq_true_eq]
 intro e
 have h1:(l.map fun x=>bK.T x.1)[i]? = some (bK.T ks):=by
  rw [dO,cj (by lia)];simp [e]
 have h2:(l.map fun x=>bK.T x.1)[j]? = some (bK.T ks):=by rw [dO,hj];rfl
 have:=(List.getElem?_inj (hM.mp h1).1 hn).mp (h1.trans h2.symm)
 lia
theorem wM:(kvs.findIdx? fun p=>decide (p.1=k))=(kvs.map (·.1)).findIdx? fun x=>decide (x=k):=by
 induction kvs with
 | nil=>rfl
 | cons p kvs ih=>simp only [c6,List.findIdx?_cons,ih]
theorem AD {h:Heap} (i:Int):∀ {es:List DictEntry},cM W F h kvs es→(∀ p∈kvs,p.1.kind=0)→(es.findIdx? fun e=>(intKind W.prog W.w).is i e.key)=kvs.findIdx? fun p=>decide (p.1=bK.I i):=by
 induction kvs with
 | nil=>intro es x _;rw [x.inv0];rfl
 | cons p kvs ih=>
  intro es x hk
  obtain ⟨e,es,a,b,c,r⟩:=cM.inv (k:=p.1) (t:=p.2) x
  obtain ⟨j,hj⟩:=EP (hk p (.head _))
  rw [hj] at a
  obtain ⟨u,hu⟩:=a.q.int_inv
  rw [List.findIdx?_cons,List.findIdx?_cons,ih r (fun p hp=>hk p (.tail _ hp)),hu,OM,hj]
theorem CB {h:Heap} {x:Str} (hx:bp i x):∀ {es:List DictEntry},cM W F h kvs es→(∀ p∈kvs,p.1.kind=1)→(es.findIdx? fun e=>(PySem.strKind W.prog W.w).is x e.key)=kvs.findIdx? fun p=>decide (p.1=bK.S i):=by
 induction kvs with
 | nil=>intro es x _;rw [x.inv0];rfl
 | cons p kvs ih=>
  intro es x hk
  obtain ⟨e,es,a,b,c,r⟩:=cM.inv (k:=p.1) (t:=p.2) x
  obtain ⟨j,hj⟩:=C2 (hk p (.head _))
  rw [hj] at a
  obtain ⟨y,u,hu,hy⟩:=a.q.str_inv
  rw [List.findIdx?_cons,List.findIdx?_cons,ih r (fun p hp=>hk p (.tail _ hp)),hu,Pl hx hy,hj]
theorem uM {x:Str} (h:bp i x):eW W (.S i)=hashStr W.w x:=by
 show hashStr W.w (mM.getD i Str.empty)=_
 rw [g9,show mM[i]? = some x from h];rfl
theorem EB {d:Addr} {ep:Nat} {kv:Value} {Q:Option Nat→Shared→Prop} (hu:A.units < cLine) (hg:s.heap.get? d=some (aL es ep)) (r:cM W F s.heap kvs es) (hn:(kvs.map (·.1)).Nodup)
  (hh:tZ k kvs=true) (hk:VR W ej s.heap (cf k) kv) (q:Q (kvs.findIdx? fun p=>decide (p.1=k)) s):wpAny (model W.prog W.w) A (dictFind d kv (eW W k)) Q E s:=by
 have hm:=Ic hh
 induction k with
 | I i=>
  obtain ⟨t,rfl⟩:=hk.q.int_inv
  refine wpAny_dictFind_of (knd:=intKind W.prog W.w) (k:=i) tX hg rfl (fun e he=>?_) (by rw [← AD i r hm] at q;rw [List.findIdx?_toArray];exact q)
  obtain ⟨k',t',h1,h2,h3,_⟩:=r.mem (List.mem_toArray.mp he)
  obtain ⟨j,hj⟩:=EP (hm _ h1)
  obtain rfl:k'=.I j:=hj
  obtain ⟨u,hu⟩:=h2.q.int_inv
  exact ⟨j,hu▸tX,h3⟩
 | S i=>
  obtain ⟨x,t,rfl,hx⟩:=hk.q.str_inv
  rw [uM hx]
  refine wpAny_dictFind_of (knd:=PySem.strKind W.prog W.w) (k:=x) z8 hg rfl (fun e he=>?_) (by rw [← CB hx r hm] at q;rw [List.findIdx?_toArray];exact q)
  obtain ⟨k',t',h1,h2,h3,_⟩:=r.mem (List.mem_toArray.mp he)
  obtain ⟨j,hj⟩:=C2 (hm _ h1)
  obtain rfl:k'=.S j:=hj
  obtain ⟨y,u,hu,hy⟩:=h2.q.str_inv
  exact ⟨y,hu▸z8,h3.trans (uM hy)⟩
 | T ks=>
  obtain ⟨vs,a,n,rfl,_⟩:=hk.tup_inv
  have h:=r.rowsH hm
  rw [wM,← h.h3] at q
  have hn':=h.h3▸hn
  refine wpAny_dictFind_heap (knd:=tupleKind (intKind W.prog W.w)) (k:=ks) hu (jp hk) hg rfl h.h1 h.h2 ?_ (fun hno=>by rw [Bv hno] at q;exact q) fun j p hj=>by rw [yi hn' hj] at q;exact q
  exact List.Pairwise.of_map (S:=(·≠·)) bK.T (fun _ _ h e=>h (aw _ e)) (by rw [cu];exact hn')
theorem I2 {kv:Value} {Q:Int→Shared→Prop} (hu:A.units < cLine) (hk:VR W ej s.heap (cf k) kv) (q:∀ tk,Q (eW W k) { s with toks:=tk }):wpAny (model W.prog W.w) A (pyHash kv) Q E s:=by
 induction k with
 | I i=>
  obtain ⟨t,rfl⟩:=hk.q.int_inv
  exact (intKind W.prog W.w).pyHash (k:=i) tX (q _)
 | S i=>
  obtain ⟨x,t,rfl,hx⟩:=hk.q.str_inv
  rw [uM hx] at q
  exact (PySem.strKind W.prog W.w).pyHash (k:=x) z8 (q _)
 | T ks=>
  obtain ⟨vs,a,n,rfl,_⟩:=hk.tup_inv
  exact (tupleKind (intKind W.prog W.w)).pyHash (k:=ks) hu (jp hk) (q _)
end
end
section
theorem iL (h:(kvs.findIdx? fun p=>decide (p.1=k))=none):gw kvs k=none∧kvs.any (fun p=>decide (p.1=k))=false∧k∉kvs.map (·.1):=by
 rw [List.findIdx?_eq_none_iff] at h
 refine ⟨?_,?_,?_⟩
 ·unfold gw
  rw [List.find?_eq_none.mpr (fun p hp=>by rw [h p hp];decide)];rfl
 ·rw [List.any_eq_false];exact fun p hp=>by rw [h p hp];decide
 ·intro hm
  obtain ⟨p,hp,rfl⟩:=bo.mp hm
  exact of_decide_eq_false (h p hp) rfl
theorem iJ (h:(kvs.findIdx? fun p=>decide (p.1=k))=some i):∃ t,kvs[i]? = some (k,t)∧gw kvs k=some t∧kvs.any (fun p=>decide (p.1=k))=true:=by
 obtain ⟨hlt,hp,hmin⟩:=List.findIdx?_eq_some_iff_getElem.mp h
 have hk:kvs[i].1=k:=bH hp
 refine ⟨kvs[i].2,?_,?_,?_⟩
 ·rw [cj hlt,← hk]
 ·unfold gw
  have:(kvs.find? fun p=>decide (p.1=k))=some kvs[i]:=by
   rw [List.find?_eq_some_iff_getElem]
   exact ⟨hp,i,hlt,rfl,fun j hj=>by have:=hmin j hj;simpa using this⟩
  rw [this];rfl
 ·rw [List.any_eq_true];exact ⟨_,List.getElem_mem hlt,hp⟩
noncomputable def PF (W:Wd) (F:Addr→Prop) (h:Heap):Option T→Option Value→Prop
 | some t,some v=>VR W F h t v
 | none,none=>True
 | _,_=>False
section
variable {W:Wd} {F:Addr→Prop} {h:Heap}
theorem LL {t:T} (hn:k∉kvs.map (·.1)):(kvs.map fun p=>if p.1=k then (p.1,t) else p)=kvs:=by
 induction kvs with
 | nil=>rfl
 | cons p kvs ih=>
  rw [c6,aU,not_or] at hn
  rw [c6,av (fun e=>hn.1 e.symm),ih hn.2]
theorem cM.modify:∀ {es:List DictEntry},cM W F h kvs es→(kvs.map (·.1)).Nodup→∀ {k:bK} {i:Nat} {t:T} {v:Value},(kvs.findIdx? fun p=>decide (p.1=k))=some i→VR W F h t v→
  cM W F h (kvs.map fun p=>if p.1=k then (p.1,t) else p) (es.modify i fun e=>{ e with val:=v }):=by
 induction kvs with
 | nil=>intro es _ _ k i t v hi;exact nn hi
 | cons p kvs ih=>
  intro es x0 hn k i t v hi x
  obtain ⟨e,es,a,b,c,r⟩:=cM.inv (k:=p.1) (t:=p.2) x0
  have hn:=cP.mp hn
  rw [List.findIdx?_cons] at hi
  rw [c6]
  by_cases q:p.1=k
  ·rw [br q,au rfl] at hi
   subst q
   rw [← az hi,au rfl,LL hn.1]
   exact .cons a b x r
  ·rw [decide_eq_false q,av bO] at hi
   rw [av q]
   exact eT hi fun j hj z=>z▸.cons a b c (ih r hn.2 hj x)
theorem cM.push:∀ {es:List DictEntry},cM W F h kvs es→∀ {k:bK} {kv:Value} {t:T} {v:Value},VR W F h (cf k) kv→VR W F h t v→cM W F h (kvs++[(k,t)]) (es++[⟨eW W k,kv,v⟩]):=by
 induction kvs with
 | nil=>intro es x0 k kv t v x y;rw [x0.inv0];exact .cons x rfl y .nil
 | cons p kvs ih=>
  intro es x0 k kv t v x y
  obtain ⟨e,es,a,b,c,r⟩:=cM.inv (k:=p.1) (t:=p.2) x0
  exact .cons a b c (ih r x y)
set_option tactic.hygienic true in
theorem kf {t:T} (hn:(kvs.map (·.1)).Nodup):((gZ kvs k t).map (·.1)).Nodup:=by
 unfold gZ
 split
 ·have:(kvs.map fun p=>if p.1=k then (p.1,t) else p).map (·.1)=kvs.map (·.1):=by
   rw [cu]
   refine iD fun p _=>?_
   show (if p.1=k then (p.1,t) else p).1=p.1
   split<;>rfl
  rw [this];exact hn
 ·rename_i q
  rw [dJ,cD]
  refine ⟨hn,by simp,fun a ha b hb e=>q ?_⟩
  simp only [c6,List.map_nil,aV] at hb
  subst hb;subst e
  obtain ⟨p,hp,hk⟩:=bo.mp ha
  rw [List.any_eq_true];exact ⟨p,hp,br hk⟩
theorem g4 {t:T}:(gZ kvs k t).length≤kvs.length+1:=by
 unfold gZ;split
 ·rw [ba];lia
 ·rw [bS];exact Nat.le_refl _
theorem pV {P:Prop} {kvs':List (bK×T)} {t:T} (e:k0 kvs k t=some kvs') (f:tZ k kvs=true→kvs.length < SZ→kvs'=gZ kvs k t→P):P:=
 ifs e fun h z=>f (cB.mp h).1 (bH (cB.mp h).2) z
variable {s:Shared} {A:Around} {E:Value→Shared→Prop} {kvs:List (bK×T)} {es:List DictEntry} {d:Addr} {ep:Nat} {k:bK} {kv:Value}
theorem uF {Q:Option Value→Shared→Prop} (hu:A.units < cLine) (hg:s.heap.get? d=some (aL es ep)) (r:cM W F s.heap kvs es) (hn:(kvs.map (·.1)).Nodup)
  (hh:tZ k kvs=true) (hk:VR W ej s.heap (cf k) kv) (q:∀ o tk,PF W F s.heap (gw kvs k) o→Q o { s with toks:=tk }):wpAny (model W.prog W.w) A (dictGet d kv) Q E s:=by
 unfold dictGet
 refine b5 (ac (I2 hu hk fun tk=>ac (EB (s:={ s with toks:=tk }) hu hg r hn hh hk ?_)))
 induction hi:kvs.findIdx? fun p=>decide (p.1=k) with
 | none=>exact al (q _ _ (by rw [(iL hi).1];trivial))
 | some i=>
  obtain ⟨t,h1,h2,_⟩:=iJ hi
  obtain ⟨e,h3,_,_,h4⟩:=r.at h1
  refine ac (fY (s:={ s with toks:=tk }) hg rfl (al (q _ _ ?_)))
  rw [List.getElem?_toArray,h3,h2];exact h4
theorem Nb {a b:bK} (h:a=b):a.kind=b.kind:=aw _ h
theorem wE {t:T} (hu:A.units < cLine) (hF:¬ F d) (hg:s.heap.get? d=some (aL es ep)) (r:cM W F s.heap kvs es) (hn:(kvs.map (·.1)).Nodup)
  (hh:tZ k kvs=true) (hl:kvs.length < SZ) (hk:VR W F s.heap (cf k) kv) (hv:VR W F s.heap t v)
  (q:∀ es' ep' h' tk,h'.get? d=some (aL es' ep')→Heap.SameBut d s.heap h'→cM W F h' (gZ kvs k t) es'→Q () { s with heap:=h',toks:=tk }):wpAny (model W.prog W.w) A (dictSetHashed d kv (eW W k) v) Q E s:=by
 have le:=r.length
 have mono:∀ {h':Heap},Heap.SameBut d s.heap h'→∀ {kvs es},cM W F s.heap kvs es→cM W F h' kvs es:=fun hs _ _ x=>x.mono (fun _ f=>f) fun a o f e=>by rw [hs.2 a (fun z=>hF (z▸f))];exact e
 unfold dictSetHashed
 refine b5 (ac (EB hu hg r hn hh hk.up ?_))
 induction hi:kvs.findIdx? fun p=>decide (p.1=k) with
 | some i=>
  obtain ⟨t',h1,h2,h3⟩:=iJ hi
  refine ac (wpAny_rule (ac (wpAny_updateDict hg rfl (wpAny_point ?_))))
  have hd:gZ kvs k t=kvs.map fun p=>if p.1=k then (p.1,t) else p:=by unfold gZ;rw [au h3]
  refine q (es.modify i fun e=>{ e with val:=v }) ep _ _ (Heap.get?_update_self (o:=aL es ep) _ hg rfl |>.trans ?_) (fZ _ _ _) ?_
  ·exact aw (fun x=>some (Obj.mk (.type "dict") none (.dict x ep) #[])) (List.modify_toArray ..)
  ·rw [hd];exact mono (fZ _ _ _) (r.modify hn hi hv)
 | none=>
  obtain ⟨_,h3,_⟩:=iL hi
  refine ac (wpAny_rule (wpAny_updateDictKeys hg rfl ?_ (by rw [cO,← le];have:=Nl;lia)))
  have hd:gZ kvs k t=kvs++[(k,t)]:=by unfold gZ;rw [av (by rw [h3];decide)]
  refine q (es++[⟨eW W k,kv,v⟩]) (ep+1) _ _ (Heap.get?_update_self (o:=aL es ep) _ hg rfl |>.trans ?_) (fZ _ _ _) ?_
  ·exact aw (fun x=>some (Obj.mk (.type "dict") none (.dict x (ep+1)) #[])) (List.push_toArray ..)
  ·rw [hd];exact mono (fZ _ _ _) (r.push hk hv)
theorem pU {t:T} (hu:A.units < cLine) (hF:¬ F d) (hg:s.heap.get? d=some (aL es ep)) (r:cM W F s.heap kvs es) (hn:(kvs.map (·.1)).Nodup)
  (hh:tZ k kvs=true) (hl:kvs.length < SZ) (hk:VR W F s.heap (cf k) kv) (hv:VR W F s.heap t v)
  (q:∀ es' ep' h' tk,h'.get? d=some (aL es' ep')→Heap.SameBut d s.heap h'→cM W F h' (gZ kvs k t) es'→Q () { s with heap:=h',toks:=tk }):wpAny (model W.prog W.w) A (dictSet d kv v) Q E s:=by
 unfold dictSet
 exact b5 (ac (I2 hu hk.up fun tk=>wE (s:={ s with toks:=tk }) hu hF hg r hn hh hl hk hv fun es' ep' h' tk'=>q es' ep' h' tk'))
end
end
section
noncomputable def cV (r:Bool) (s:Shared) (v:Value) (s':Shared):Prop:=v=.bool r∧∃ tk,s'={ s with toks:=tk }
theorem cV.now {r:Bool}:cV r s (.bool r) s:=⟨rfl,s.toks,rfl⟩
theorem cV.tk {r:Bool} {t:Nat}:cV r s (.bool r) { s with toks:=t }:=⟨rfl,t,rfl⟩
noncomputable def Pf (r:Bool) (s:Shared) (b:Bool) (s':Shared):Prop:=b=r∧∃ tk,s'={ s with toks:=tk }
section
variable {W:Wd} {F:Addr→Prop} {s:Shared} {A:Around} {E:Value→Shared→Prop} {kvs:List (bK×T)} {es:List DictEntry} {d:Addr} {ep:Nat} {k:bK} {kv:Value}
theorem aA (hg:s.heap.get? d=some (aL es ep)):s.TypeIs (.ref d) "dict":=⟨_,hg,rfl⟩
theorem lh {Q:Bool→Shared→Prop} (hu:A.units+5 < cLine) (hs:(d==sysModules)=false) (hg:s.heap.get? d=some (aL es ep)) (r:cM W F s.heap kvs es) (hn:(kvs.map (·.1)).Nodup)
  (hh:tZ k kvs=true) (hk:VR W ej s.heap (cf k) kv) (q:∀ tk,Q (gw kvs k).isSome { s with toks:=tk }):wpAny (model W.prog W.w) A (contains (.ref d) kv) Q E s:=by
 delta contains
 refine b5 (ac (wpAny_specialOf (aA hg) slot_dict_contains.lookup ?_))
 show wpAny _ _ (if (some (Value.builtin "dict.__contains__")==some Value.none)=true then _ else _) _ E s
 rw [av (by rw [beq_builtin_none];exact bO)]
 refine ac (wpAny_callSpecialUnlessNone?_slot (name:=Str.ofString "__contains__") (aA hg) slot_dict_contains
  (eR slot_dict_contains (aA hg) entry_dict_contains ?_ (args_dict_contains _ _)))
 show wpAny _ _ (dictGet d kv >>= _) _ _ s
 refine ac (uF (by simp only [Around.in1_units];lia) hg r hn hh hk fun o tk ho=>?_)
 have q:=q tk
 induction hf:gw kvs k with
 | some v=>
  rw [hf] at ho q
  induction o with
  | none=>exact ho.elim
  | some o=>
   show wpAny _ _ (ret (.bool true)) _ _ _
   exact al ⟨_,rfl,wpAny_truthy_bool q⟩
 | none=>
  rw [hf] at ho q
  induction o with
  | some o=>exact ho.elim
  | none=>
   show wpAny _ _ (Builtin.Dict.pendingKey? d kv >>= _) _ _ _
   exact ac (wpAny_pendingKey_other hs (al ⟨_,rfl,wpAny_truthy_bool q⟩))
theorem qT {β:Type} {M:Model} (n:Nat) (f:Nat→β→Sem (ForInStep β)) (I:Nat→β→Shared→Prop) (Q:β→Shared→Prop) (turn:∀ i b s',i < n→I i b s'→wpAny M A (f i b) (fun r s''=>match r with | .yield b'=>I (i+1) b' s'' | .done b'=>Q b' s'') E s')
  (fin:∀ b s',I n b s'→Q b s') (b:β) (h:I 0 b s):wpAny M A (forIn [0:n] b f) Q E s:=by
 rw [Std.Legacy.Range.forIn_eq_forIn_range']
 simp only [Std.Legacy.Range.size,Nat.sub_zero,Nat.add_sub_cancel,Nat.div_one]
 refine wpAny_forIn_list f (fun rest z s'=>∃ i,rest=List.range' i (n - i)∧i≤n∧I i z s') Q ?_ ?_ _ b ⟨0,rfl,ck _,h⟩
 ·rintro x rest z s' ⟨i,hr,hi,J⟩
  have hlt:i < n:=Nat.lt_of_le_of_ne hi fun e=>by rw [e,Nat.sub_self] at hr;exact nomatch hr
  rw [show n - i=(n - (i+1))+1 from (Nat.succ_pred_eq_of_pos (Nat.sub_pos_of_lt hlt)).symm,List.range'_succ] at hr
  obtain rfl:=(List.cons.inj hr).1
  exact ax (turn x z s' hlt J) (fun r s'' k=>by induction r with
   | yield b'=>exact ⟨x+1,(List.cons.inj hr).2,hlt,k⟩
   | done b'=>exact k) am
 ·rintro z s' ⟨i,hr,hi,J⟩
  have:n - i=0:=by have:=aw List.length hr;rw [List.length_range'] at this;exact this.symm
  obtain rfl:i=n:=Nat.le_antisymm hi (Nat.le_of_sub_eq_zero this)
  exact fin z s' J
theorem uA {a:List (bK×T)} {ea eb:List DictEntry} {da db:Addr} {pa pb:Nat} {nm:String} {Q:Bool→Shared→Prop} (hu:A.units+10+hX a < cLine) (ha:(da==sysModules)=false) (hb:(db==sysModules)=false)
  (ga:s.heap.get? da=some (aL ea pa)) (gb:s.heap.get? db=some (aL eb pb)) (ra:cM W ej s.heap a ea) (rb:cM W ej s.heap b eb) (nb:(b.map (·.1)).Nodup) (hom':∀ p∈a,tZ p.1 b=true)
  (hl:a.length=b.length) (hall:∀ p∈a,∃ v,gw b p.1=some v∧z0 p.2 v=some true) (hdep:∀ p∈a,depth p.2≤hX a) (q:Q true s):wpAny (model W.prog W.w) A (Builtin.Dict.samePairs nm da db) Q E s:=by
 have la:=ra.length
 have lb:=rb.length
 delta Builtin.Dict.samePairs Builtin.Dict.showsAll
 refine ac (bD (by refine Eq.symm (ha)▸?_;exact bO) (al (ac (bD (by refine Eq.symm (hb)▸?_;exact bO) (al ?_)))))
 refine ac (fY ga rfl (ac (fY gb rfl (bD (fun h=>(bne_iff_ne.mp h) (la.symm.trans (hl.trans lb))) (ac (wpAny_dictEpoch ga rfl (ac ?_)))))))
 refine qT ea.length _ (fun _ z s'=>s'=s∧z=(none,())) _ (fun x z s' hx I=>?_) (fun z s' I=>?_) _ ⟨rfl,rfl⟩
 ·obtain ⟨rfl,rfl⟩:=I
  have hlt':x < a.length:=by refine Eq.symm (la)▸?_;exact hx
  have hmem:a[x]∈a:=List.getElem_mem hlt'
  obtain ⟨e,he,hk,hh,hv⟩:=ra.at (i:=x) (k:=a[x].1) (t:=a[x].2) (cj hlt')
  refine ac (fY ga rfl ?_)
  rw [List.getElem?_toArray,he]
  refine ac (m:=holding [e.key,e.val] _) (b5 ?_)
  refine Eq.symm (hh)▸?_
  obtain ⟨u,hu1,hu2⟩:=hall _ hmem
  refine ac (EB (eD (aH (Nat.le_add_right _ 10) (Nat.le_add_right _ _)) hu) gb rb nb (hom' _ hmem) hk ?_)
  induction hj:b.findIdx? fun p=>decide (p.1=a[x].1) with
  | none=>exact nn ((iL hj).1.symm.trans hu1)
  | some j=>
   obtain ⟨u',h1,h2,_⟩:=iJ hj
   obtain rfl:=az (h2.symm.trans hu1)
   obtain ⟨e',he',_,_,hv'⟩:=rb.at h1
   refine ac (fY gb rfl ?_)
   rw [List.getElem?_toArray,he']
   refine b5 (Fu hu2 hv hv' (eD (Nat.add_le_add (Nat.le_add_right _ 10) (hdep _ hmem)) hu) W.prog W.w _ _ (bD bO (ac (wpAny_dictEpoch ga rfl (bD (by simp) (al ⟨rfl,rfl⟩))))))
 ·obtain ⟨rfl,rfl⟩:=I
  exact al q
theorem Oc {v:T} (h:gw b k=some v):∃ p∈b,p.1=k:=by
 delta gw at h
 obtain ⟨p,hp,_⟩:=oE.mp h
 have:=List.find?_some hp
 exact ⟨p,List.mem_of_find?_eq_some hp,bH this⟩
theorem x7 {a:List (bK×T)} {p:bK×T}:p∈a→depth p.2≤hX a:=by
 induction a with
 | nil=>intro h;exact nomatch h
 | cons q a ih=>
  intro h
  rcases aU.mp h with rfl | h
  ·exact Nat.le_max_left _ _
  ·exact aH (ih h) (Nat.le_max_right _ _)
theorem Gg {a:List (bK×T)} {r:Bool} (e:Oy a b=some r):r=true∧a.length=b.length∧(∀ p∈a,tZ p.1 b=true)∧∀ p∈a,∃ v,gw b p.1=some v∧z0 p.2 v=some true:=
 ifs e fun h z=>⟨z,h.1,fun p hp=>(cB.mp (aY.mp h.2 p hp)).1,fun p hp=>by
  have:=(cB.mp (aY.mp h.2 p hp)).2
  induction q:gw b p.1 with
  | none=>rw [q] at this;exact bt this
  | some v=>rw [q] at this;exact ⟨v,rfl,bm.mp this⟩⟩
theorem Ea {a:List (bK×T)} {r:Bool} (hu:A.units+20+hX a < cLine) (x:VR W ej s.heap (.dict a) va) (y:VR W ej s.heap (.dict b) vb) (e:Oy a b=some r) :
  wpAny (model W.prog W.w) A (compareOp .Eq va vb) (cV r s) E s∧wpAny (model W.prog W.w) A (compareOp .NotEq va vb) (cV (!r) s) E s:=by
 obtain ⟨rfl,hl,hh,hall⟩:=Gg e
 obtain ⟨ea,da,pa,rfl,ga,_,na,sa,ra⟩:=x.q.dict_inv
 obtain ⟨eb,db,pb,rfl,gb,_,nb,sb,rb⟩:=y.q.dict_inv
 have sp:∀ {nm:String} {A':Around} {E'} {Q:Bool→Shared→Prop},A'.units≤A.units+5→Q true s→wpAny (model W.prog W.w) A' (Builtin.Dict.samePairs nm da db) Q E' s:=fun hA q=>uA (by lia) sa sb ga gb ra rb nb hh hl hall (fun p hp=>x7 hp) q
 refine ⟨?_,?_⟩
 ·refine wpAny_richCompare_same_room (op:=.Eq) (aA ga) (aA gb) PySem.F.slot_dict_eq (eR PySem.F.slot_dict_eq (aA ga) PySem.F.entry_dict_eq ?_ (PySem.F.args_dict_eq_2 _ _)) (by lia)
  show wpAny _ _ (Builtin.Dict.dictSlotArgs "__eq__" ⟨[.ref da,.ref db],[]⟩ >>= _) _ _ s
  refine ac ?_
  delta Builtin.Dict.dictSlotArgs
  refine ac (wpAny_notOrdered_dict (aA ga) ?_)
  show wpAny _ _ (pure (Value.ref da,Value.ref db)) _ _ s
  refine al ?_
  refine ac (wpAny_isInstance (T:="dict") (aA gb) PySem.F.sub_dict_dict ?_)
  simp only [Bool.not_true,Bool.false_eq_true,if_false]
  refine ac (al (ac (al ?_)))
  refine ac (sp (by simp only [Around.in1_units];lia) ?_)
  exact al ⟨_,rfl,(fun x=>nomatch x),cV.now⟩
 ·refine wpAny_richCompare_same_room (op:=.NotEq) (aA ga) (aA gb) PySem.F.slot_dict_ne (eR PySem.F.slot_dict_ne (aA ga) PySem.F.entry_dict_ne ?_ (PySem.F.args_dict_ne_2 _ _)) (by lia)
  show wpAny _ _ (Builtin.Dict.dictSlotArgs "__ne__" ⟨[.ref da,.ref db],[]⟩ >>= _) _ _ s
  refine ac ?_
  delta Builtin.Dict.dictSlotArgs
  refine ac (wpAny_notOrdered_dict (aA ga) ?_)
  show wpAny _ _ (pure (Value.ref da,Value.ref db)) _ _ s
  refine al ?_
  refine ac (wpAny_isInstance (T:="dict") (aA gb) PySem.F.sub_dict_dict ?_)
  simp only [Bool.not_true,Bool.false_eq_true,if_false]
  refine ac (al (ac (al ?_)))
  refine ac (sp (by simp only [Around.in1_units];lia) ?_)
  exact al ⟨_,rfl,(fun x=>nomatch x),cV.now⟩
theorem D1 (i a:Int) (u:Tok):Value.isInt i (.int a u)=(a==i):=rfl
theorem N5 (x y:Str) (u:Tok):(match Value.str y u with | .str y _=>y.cps.toList==x.cps.toList | _=>false)=(y.cps.toList==x.cps.toList):=rfl
theorem uY (a i:Int):(a==i)=(i==a):=by
 by_cases h:a=i
 ·subst h;rfl
 ·rw [eG.mpr h,eG.mpr (Ne.symm h)]
theorem G6 {l:List Int} {i:Int} {t:Tok}:∀ {vs:List Value},bR W ej s.heap (l.map .int) vs→(∀ y∈vs,SeqAt.EqAt A.in1 s y (.int i t) (Value.isInt i y))∧vs.any (Value.isInt i)=l.contains i:=by
 induction l with
 | nil=>intro vs r;refine Eq.symm (r.inv0)▸?_;exact ⟨(fun _ h=>nomatch h),rfl⟩
 | cons a l ih=>
  intro vs r
  obtain ⟨v,vs,x,r2⟩:=bR.inv (t:=.int a) (ts:=l.map .int) r
  obtain ⟨h1,h2⟩:=ih r2
  obtain ⟨u,h⟩:=x.q.int_inv
  refine Eq.symm (h)▸?_
  refine ⟨fun y hy=>?_,by rw [List.any_cons,h2,List.contains_cons,D1,uY]⟩
  rcases aU.mp hy with rfl | hy
  ·exact (MeetsSeq.EqGives.int a i u t).at A.in1 s
  ·exact h1 y hy
noncomputable def xy (x:Str):Value→Bool | .str y _=>y.cps.toList==x.cps.toList | _=>false
theorem Gp {a b:Str}:(a.cps.toList==b.cps.toList)=decide (a=b):=by
 by_cases q:a=b
 ·subst q;simp
 ·refine Eq.symm (decide_eq_false q)▸?_
  exact eG.mpr fun e=>q (by obtain ⟨a⟩:=a;obtain ⟨b⟩:=b;exact aw Str.mk (Array.toList_inj.mp e))
theorem J7 {x y:Str} {j:Nat} {u:Tok} (hx:bp i x) (hy:bp j y):xy x (.str y u)=(i==j):=by
 show (y.cps.toList==x.cps.toList)=(i==j)
 refine Eq.symm (Gp)▸?_
 by_cases q:y=x
 ·subst q;refine Eq.symm (hx.inj hy)▸?_;simp
 ·have:i≠j:=fun z=>q (by subst z;exact hy.fn hx)
  simp [q,this]
theorem KK {a:T} (h:M5 a=true):∃ j,a=.str j:=by
 cases a with
 | str j=>exact ⟨j,rfl⟩
 | _=>exact bt h
theorem HP {x:Str} {t:Tok} (hx:bp i x) (e:xs.all M5=true):∀ {vs:List Value},bR W ej s.heap xs vs→
  (∀ y∈vs,SeqAt.EqAt A.in1 s y (.str x t) (xy x y))∧vs.any (xy x)=xs.any (Pq i):=by
 induction xs with
 | nil=>intro vs r;refine Eq.symm (r.inv0)▸?_;exact ⟨(fun _ h=>nomatch h),rfl⟩
 | cons a l ih=>
  intro vs r
  obtain ⟨v,vs,z,r2⟩:=r.inv
  have e:=cB.mp e
  obtain ⟨h1,h2⟩:=ih e.2 r2
  obtain ⟨j,rfl⟩:=KK e.1
  obtain ⟨y,u,rfl,hy⟩:=z.q.str_inv
  refine ⟨fun y' hy'=>?_,by rw [List.any_cons,List.any_cons,h2,J7 hx hy];rfl⟩
  rcases aU.mp hy' with rfl | hy'
  ·exact MeetsSeq.EqGives.at (SeqRoads2.EqGives.str y x u t) A.in1 s
  ·exact h1 y' hy'
theorem xQ {h:Heap} {a:T} (x:dY W F h a v):(v==.none)=bZ a:=by
 have x:=x.up
 cases a with
 | none=>refine Eq.symm (x.q.none_inv)▸?_;rfl
 | bool _=>refine Eq.symm (x.q.bool_inv)▸?_;rfl
 | int _=>obtain ⟨t,h⟩:=x.q.int_inv;refine Eq.symm (h)▸?_;rfl
 | str _=>obtain ⟨y,t,h,_⟩:=x.q.str_inv;refine Eq.symm (h)▸?_;rfl
 | tup _=>obtain ⟨_,_,_,h,_⟩:=x.tup_inv;refine Eq.symm (h)▸?_;rfl
 | list _=>obtain ⟨_,_,_,h,_⟩:=x.list_inv;refine Eq.symm (h)▸?_;rfl
 | dict _=>obtain ⟨_,_,_,h,_⟩:=x.q.dict_inv;refine Eq.symm (h)▸?_;rfl
 | set _=>obtain ⟨_,h,_⟩:=x.q.set_inv;refine Eq.symm (h)▸?_;rfl
 | dvals _=>obtain ⟨_,_,_,_,h,_⟩:=x.q.dvals_inv;refine Eq.symm (h)▸?_;rfl
 | rng _=>obtain ⟨_,_,_,_,h,_⟩:=x.q.rng_inv;refine Eq.symm (h)▸?_;rfl
 | inst _ _=>obtain ⟨_,_,_,_,h,_⟩:=x.q.inst_inv;refine Eq.symm (h)▸?_;rfl
noncomputable def NT (W:Wd) (A:Around) (E:Value→Shared→Prop) (s:Shared) (op op':CmpOp) (va vb:Value) (r:Bool):Prop:=wpAny (model W.prog W.w) A (compareOp op va vb) (cV r s) E s∧wpAny (model W.prog W.w) A (compareOp op' va vb) (cV (!r) s) E s
theorem Ag {a b:T} {r:Bool} (hu:A.units+100 < cLine) (x:dY W F s.heap a va) (y:dY W F s.heap b vb) (hd:depth a≤60) (e:Lw a b=some r):NT W A E s .Eq .NotEq va vb r:=by
 delta Lw at e
 induction h:kU a with
 | some p=>
  rw [h] at e
  have h:=kq h
  subst h
  exact dw e fun q h1 e=>Ea (by have:hX p+1≤60:=hd;lia) x.up (kq h1▸y).up e
 | none=>
  rw [h] at e
  have h:=y4 e x.up y.up (A:=A) (by lia)
  exact ⟨h.1 W.prog W.w _ _ cV.now,h.2 W.prog W.w _ _ cV.now⟩
theorem zS {a b:T} {r:Bool} (hu:A.units+100 < cLine) (x:dY W F s.heap a va) (y:dY W F s.heap b vb) (e:OW a b=some r):NT W A E s .In .NotIn va vb r:=by
 refine cps fun G kk=>?_
 cases b with
 | dict kvs=>
  refine kk (dw e fun k hk e=>ifs e fun hh z=>?_)
  obtain ⟨es,d,ep,rfl,g,_,n,sy,rr⟩:=y.dict_inv
  have k2:VR W ej s.heap (cf k) va:=gH hk▸x.up
  refine Eq.symm (z)▸?_
  exact ⟨ac (lh (by lia) sy g rr n hh k2 fun tk=>al cV.tk),ac (lh (by lia) sy g rr n hh k2 fun tk=>al cV.tk)⟩
 | set xs=>
  refine kk (eT e fun i hi z=>?_)
  obtain ⟨t,rfl⟩:=(cC hi▸x).int_inv
  obtain ⟨d,rfl,_,hS⟩:=y.set_inv
  refine Eq.symm (z)▸?_
  exact ⟨wpAny_inSet_of (knd:=intKind W.prog W.w) (k:=i) tX rfl hS.of cV.tk,wpAny_notInSet_of (knd:=intKind W.prog W.w) (k:=i) tX rfl hS.of cV.tk⟩
 | list xs=>
  refine kk (dw e fun i hi e=>eT e fun l hl z=>?_)
  obtain ⟨t,rfl⟩:=(cC hi▸x).int_inv
  obtain ⟨vs,d,n,rfl,g,_,rr⟩:=y.list_inv
  obtain ⟨h1,h2⟩:=G6 (A:=A) (i:=i) (t:=t) (ew hl▸rr.up)
  rw [z,← h2]
  exact ⟨SeqAt.in_listAt (Value.isInt i) (pA g) (by simpa using h1) (by simpa using cV.now),SeqAt.notIn_listAt (Value.isInt i) (pA g) (by simpa using h1) (by simpa using cV.now)⟩
 | tup xs=>
  refine kk (dw e fun i hi e=>ifs e fun hall e=>?_)
  obtain ⟨z,t,rfl,hz⟩:=(yF hi▸x).str_inv
  obtain ⟨vs,d,n,rfl,g,_,rr⟩:=y.tup_inv
  obtain ⟨h1,h2⟩:=HP (A:=A) (i:=i) (t:=t) hz hall rr.up
  rw [e,← h2]
  exact ⟨SeqAt.in_tupleAt (xy z) (JM g) (by simpa using h1) (by simpa using cV.now),SeqAt.notIn_tupleAt (xy z) (JM g) (by simpa using h1) (by simpa using cV.now)⟩
 | _=>exact nn e
theorem yI {op:CmpOp} {a b:T} {r:Bool} (hu:A.units+100 < cLine) (x:dY W F s.heap a va) (y:dY W F s.heap b vb) (e:ky op a b=some r):wpAny (model W.prog W.w) A (compareOp op va vb) (cV r s) E s:=by
 have ord:∀ {f} {P:Prop},DU f a b=some r→(∀ p q t u,va=.int p t→vb=.int q u→r=f p q→P)→P:=fun e k=>dw e fun p h1 e=>eT e fun q h2 z=>
  (cC h1▸x).int_inv.elim fun t h3=>(cC h2▸y).int_inv.elim fun u h4=>k p q t u h3 h4 z
 induction op with
 | Eq=>exact sr e fun hd e=>(Ag hu x y hd e).1
 | NotEq=>exact sr e fun hd e=>eT e fun r' h1 z=>z▸(Ag hu x y hd h1).2
 | In=>exact (zS hu x y e).1
 | NotIn=>exact eT e fun r' h1 z=>z▸(zS hu x y h1).2
 | Is=>exact ifs e fun h z=>by have y':dY W F s.heap .none vb:=nB h▸y;refine Eq.symm (y'.none_inv)▸?_;exact is_none_gen (by rw [xQ x,← z];exact cV.now)
 | IsNot=>exact ifs e fun h z=>by have y':dY W F s.heap .none vb:=nB h▸y;refine Eq.symm (y'.none_inv)▸?_;exact PySem.isNot_none (by rw [xQ x,← z];exact cV.now)
 | Lt=>exact ord e fun p q t u h1 h2 z=>by rw [h1,h2,z];exact P.lt_int cV.now
 | LtE=>exact ord e fun p q t u h1 h2 z=>by rw [h1,h2,z];exact P.le_int cV.now
 | Gt=>exact ord e fun p q t u h1 h2 z=>by rw [h1,h2,z];exact P.gt_int cV.now
 | GtE=>exact ord e fun p q t u h1 h2 z=>by rw [h1,h2,z];exact P.ge_int cV.now
end
end
section
inductive LZ (i:Int) (s:Shared) (v:Value) (s':Shared):Prop where
 | mk (u:Tok) (tk:Nat) (h1:v=.int i u) (h2:s'={ s with toks:=tk })
theorem LZ.res {i:Int} (x:LZ i s v s'):fG W F s (.int i) v s':=by
 obtain ⟨u,tk,rfl,rfl⟩:=x;exact .of_toks (.int _ _)
theorem cV.res {r:Bool} (x:cV r s v s'):fG W F s (.bool r) v s':=by
 obtain ⟨rfl,tk,rfl⟩:=x;exact .of_toks (.bool _)
theorem ib (h:n≤SZ):(n:Int) < 2 ^ 63:=by have:SZ=1048576:=rfl;lia
section
variable {W:Wd} {F:Addr→Prop} {s:Shared} {A:Around} {E:Value→Shared→Prop} {kvs:List (bK×T)} {es:List DictEntry} {d:Addr} {ep:Nat} {k:bK} {kv:Value}
theorem y8 (hs:(d==sysModules)=false) :
  MeetsIn W.prog W.w (Builtin.«dict.__len__» ⟨[.ref d],[]⟩) (fun _ R s=>s.heap.get? d=some (aL es ep)∧R (.ok (.ret (.int es.length s.toks))) { s with toks:=s.toks+1 }):=
 .of_wp fun A R s ⟨hg,h⟩=>by
  show wpAny _ _ (dictSize d >>= _) _ _ s
  unfold dictSize
  refine ac (ac (fY hg rfl (al ?_)))
  show wpAny _ _ (Builtin.Dict.pendingCount d >>= _) _ _ s
  refine ac (wpAny_pendingCount_other hs ?_)
  refine wpAny_ret_mkInt ?_
  rw [Nat.add_zero,cO];exact h
theorem q7 (hs:(d==sysModules)=false) (hg:s.heap.get? d=some (aL es ep)) (hfit:(es.length:Int) < 2 ^ 63) {Q:Value→Shared→Prop}
  (h:Q (.int es.length (s.toks+1)) { s with toks:=s.toks+1+1 }):wpAny (model W.prog W.w) A (Builtin.«len» ⟨[.ref d],[]⟩) (fun fin s'=>∃ r,fin=.done (.ret r)∧Q r s') E s:=by
 unfold Builtin.«len»
 refine ac (m:=oneArg "len" _) (al ?_)
 refine ac (m:=callSpecial? (.ref d) "__len__") (wpAny_callSpecial?_slot (name:=Str.ofString "__len__") (aA hg) PySem.F.slot_dict_len
  (call_meetsIn PySem.F.slot_dict_len (aA hg) PySem.F.entry_dict_len (PySem.F.args_dict_len_1 _) (y8 hs) ⟨hg,?_⟩))
 show wpAny _ _ _ _ _ { s with toks:=s.toks+1 }
 refine ac (b5 (al ?_))
 refine ac (wpAny_letGo ?_)
 show wpAny _ _ (if ((es.length:Nat):Int) < 0 then _ else _) _ _ _
 rw [av (by lia)]
 show wpAny _ _ (if ((es.length:Nat):Int) ≥ 2 ^ 63 then _ else _) _ _ _
 rw [av (by lia)]
 exact ac (wpAny_mkInt (al ⟨_,rfl,h⟩))
theorem C5 (hs:(d==sysModules)=false) (hg:s.heap.get? d=some (aL es ep)) (hfit:(es.length:Int) < 2 ^ 63) {Q:Bool→Shared→Prop} (h:Q (!es.isEmpty) { s with toks:=s.toks+1+1 }):wpAny (model W.prog W.w) A (truthy (.ref d)) Q E s:=by
 have hne:((es.length:Int) != 0)=!es.isEmpty:=by induction es<;>simp<;>lia
 have key:wpAny (model W.prog W.w) A (runValue (.builtin "len" ⟨[.ref d],[]⟩)) (fun r s'=>r=.int es.length (s.toks+1)∧Q (!es.isEmpty) s') E s:=by
  refine wpAny_runValue (codeAny_builtin entry_len ?_)
  rw [Around.under_plainId plain_len _]
  exact ax (q7 (Q:=fun r s'=>r=.int es.length (s.toks+1)∧Q (!es.isEmpty) s') hs hg hfit ⟨rfl,h⟩)
   (fun fin s' h'=>by obtain ⟨r,rfl,hq⟩:=h';exact hq) am
 unfold truthy
 first
  | refine ac (wpAny_callSpecial?_none (name:=Str.ofString "__bool__") (aA hg) noBool_dict ?_)
  | refine ac (al (ac (wpAny_callSpecial?_none (name:=Str.ofString "__bool__") (aA hg) noBool_dict ?_)))
 first
  | refine ac (wpAny_specialOf (name:=Str.ofString "__len__") (aA hg) PySem.F.slot_dict_len.lookup ?_)
  | refine ac (al (ac (wpAny_specialOf (name:=Str.ofString "__len__") (aA hg) PySem.F.slot_dict_len.lookup ?_)))
 first
  | exact ac (ax key (fun r s' h'=>by obtain ⟨rfl,hq⟩:=h';exact al (hne▸hq)) am)
  | exact ac (al (ac (ax key (fun r s' h'=>by obtain ⟨rfl,hq⟩:=h';exact al (hne▸hq)) am)))
theorem dK {β:Type} {xs:List α} {ys:List β} (h:xs.length=ys.length):xs.isEmpty=ys.isEmpty:=by
 induction xs<;>induction ys<;>first | rfl | simp at h
theorem r8 {a:T} {r:Bool} (x:dY W F s.heap a v) (e:qO a=some r):wpAny (model W.prog W.w) A (truthy v) (Pf r s) E s:=by
 cases a with
 | bool b=>obtain rfl:=az e;rw [x.bool_inv];exact wpAny_truthy_bool ⟨rfl,s.toks,rfl⟩
 | int i=>obtain rfl:=az e;obtain ⟨t,rfl⟩:=x.int_inv;exact PyProof.Rows.truthy_int ⟨rfl,s.toks,rfl⟩
 | tup xs=>
  obtain rfl:=az e
  obtain ⟨vs,a,n,rfl,g,l,rr⟩:=x.tup_inv
  refine truthy_tuple (A2 g) (by rw [cO,← rr.length];exact ib l) ⟨?_,_,rfl⟩
  rw [List.isEmpty_toArray,dK rr.length]
 | list xs=>
  obtain rfl:=az e
  obtain ⟨vs,a,n,rfl,g,l,rr⟩:=x.list_inv
  refine wpAny_truthy_list (pA g) (by rw [cO,← rr.length];exact ib l) ⟨?_,_,rfl⟩
  rw [List.isEmpty_toArray,dK rr.length]
 | dict kvs=>
  obtain rfl:=az e
  obtain ⟨es,d,ep,rfl,g,l,_,hs,rr⟩:=x.dict_inv
  refine C5 hs g (by rw [← rr.length];exact ib l) ⟨?_,_,rfl⟩
  rw [dK rr.length]
 | _=>exact nn e
theorem Lk {a:T} (x:dY W F s.heap a v) (e:Ow a=some n):wpAny (model W.prog W.w) A (call (.builtin "len") [v]) (LZ n s) E s:=by
 cases a with
 | tup xs=>
  obtain rfl:=az e
  obtain ⟨vs,a,n,rfl,g,l,rr⟩:=x.tup_inv
  exact len_tuple (A2 g) (by rw [cO,← rr.length];exact ib l) ⟨_,_,by rw [cO,← rr.length],rfl⟩
 | list xs=>
  obtain rfl:=az e
  obtain ⟨vs,a,n,rfl,g,l,rr⟩:=x.list_inv
  exact Calls.call_len_list (pA g) (by rw [cO,← rr.length];exact ib l) ⟨_,_,by rw [cO,← rr.length],rfl⟩
 | dict kvs=>
  obtain rfl:=az e
  obtain ⟨es,d,ep,rfl,g,l,_,hs,rr⟩:=x.dict_inv
  exact Calls.call_function_entry kind_len plain_len entry_len (args_len1 _) (q7 hs g (by rw [← rr.length];exact ib l) ⟨_,_,by rw [← rr.length],rfl⟩)
 | set xs=>
  obtain rfl:=az e
  obtain ⟨d,rfl,l,hS⟩:=x.set_inv
  obtain ⟨o,es,ep,t,ho,hex,hd,_,_,_,hf,hn⟩:=hS.of
  exact call_len_set ho hex hd hf (by rw [hn];exact ib l) ⟨_,_,by rw [hn],rfl⟩
 | _=>exact nn e
theorem wx {i:Int} {j:Nat} (e:idxOf i xs.length=some j):j < xs.length∧((0≤i∧j=i.toNat)∨(i=-1∧j=xs.length - 1)):=by
 refine kz e (fun h e=>ifs e fun h' z=>⟨z▸h',.inl ⟨h,z⟩⟩) fun e=>ifs e fun h z=>⟨?_,.inr ⟨h.1,z⟩⟩
 rw [z];exact Nat.sub_lt h.2 Nat.one_pos
theorem No (h:n - 1 < n):(-1:Int)+n=((n - 1:Nat):Int):=by
 induction n with
 | zero=>exact absurd h (Nat.lt_irrefl 0)
 | succ m=>exact (Int.add_comm _ _).trans (Int.add_neg_cancel_right (m:Int) 1)
theorem Oh {k:Int} (h0:0≤k) (h:k.toNat < n) (hS:(n:Int) < 2 ^ 63):k < 2 ^ 63:=Int.lt_trans (Int.toNat_of_nonneg h0▸Int.ofNat_lt.mpr h) hS
theorem NI {k:Int} {j:Nat} (h:j < n) (hj:(0≤k∧j=k.toNat)∨(k=-1∧j=n - 1)) (hS:(n:Int) < 2 ^ 63):-(2 ^ 63)≤k∧k < 2 ^ 63:=
 hj.elim (fun e=>⟨Int.le_trans (by decide) e.1,Oh e.1 (e.2▸h) hS⟩) fun e=>e.1▸⟨by decide,by decide⟩
theorem Kp {i:Int} {j:Nat} (hj:j < n) (h:(0≤i∧j=i.toNat)∨(i=-1∧j=n - 1)):seqIndex? i n=some j:=by
 have key:∀ k:Nat,k < n→(if (0≤(k:Int)&&(k:Int) < n)=true then some (k:Int).toNat else none)=some k:=fun k h=>au (cB.mpr ⟨br (Int.natCast_nonneg k),br (Int.ofNat_lt.mpr h)⟩)
 unfold seqIndex?
 rcases h with ⟨h0,rfl⟩ | ⟨rfl,rfl⟩
 ·obtain ⟨k,rfl⟩:=Int.eq_ofNat_of_zero_le h0
  rw [av (Int.not_lt.mpr h0)];exact key k hj
 ·rw [au (show (-1:Int) < 0 by decide),No hj];exact key _ hj
theorem qX {o i t:T} {vi:Value} (hu:A.units+20 < cLine) (x:dY W F s.heap o vo) (y:dY W F s.heap i vi) (e:getItem o i=some t):wpAny (model W.prog W.w) A (PySem.getItem vo vi) (fG W F s t) E s:=by
 refine cps fun G kk=>?_
 cases o with
 | tup xs=>
  refine kk (dw e fun k hk e=>dw e fun j hj ht=>?_)
  obtain ⟨hlt,hij⟩:=wx hj
  obtain ⟨vs,a,n,rfl,g,l,rr⟩:=x.tup_inv
  obtain ⟨u,rfl⟩:=(cC hk▸y).int_inv
  obtain ⟨v,hv,rv⟩:=rr.get ht
  have hS:=ib l
  have hl:xs.length=vs.length:=rr.length
  exact getItem_tuple (A2 g) (NI hlt hij hS).1 (NI hlt hij hS).2 (by rw [cO];exact Kp (hl▸hlt) (by rw [← hl];exact hij)) (List.getElem?_toArray.trans hv) (.of_same rv)
 | list xs=>
  refine kk (dw e fun k hk e=>dw e fun j hj ht=>?_)
  obtain ⟨hlt,hij⟩:=wx hj
  obtain ⟨vs,a,n,rfl,g,l,rr⟩:=x.list_inv
  obtain ⟨u,rfl⟩:=(cC hk▸y).int_inv
  obtain ⟨v,hv,rv⟩:=rr.get ht
  have hS:=ib l
  have hl:xs.length=vs.length:=rr.length
  rcases hij with ⟨h0,rfl⟩ | ⟨rfl,rfl⟩
  ·exact wpAny_getItem_list (pA g) h0 (Oh h0 hlt hS) (List.getElem?_toArray.trans hv) (.of_same rv)
  ·refine wpAny_getItem_list_neg (pA g) (by decide) (Int.neg_le_neg (Int.ofNat_le.mpr (hl▸eD (ck _) hlt:1≤vs.length))) (by decide) ?_ (.of_same rv)
   rw [List.getElem?_toArray,cO]
   rw [← hl,No hlt];exact hv
 | dict kvs=>
  refine kk (dw e fun k hk e=>sr e fun hh e=>?_)
  obtain ⟨es,d,ep,rfl,g,_,n,sy,rr⟩:=x.dict_inv
  have k2:VR W ej s.heap (cf k) vi:=gH hk▸y.up
  unfold PySem.getItem
  try with_reducible refine b5 ?_
  first | refine ac (al ?_) | skip
  refine ac (wpAny_sequenceKey (aA g) (by decide) ?_)
  refine ac (wpAny_callSpecial?_slot (name:=Str.ofString "__getitem__") (aA g) slot_dict_getitem
   (eR slot_dict_getitem (aA g) entry_dict_getitem ?_ (args_dict_getitem _ _)))
  refine ac (m:=dictGet d vi) (uF (eD (Nat.add_le_add_left (by decide:1≤20) _) hu) g rr n hh k2 fun o tk ho=>?_)
  rw [e] at ho
  induction o with
  | none=>exact ho.elim
  | some v=>exact al ⟨v,rfl,al (.of_toks ho)⟩
 | _=>exact nn e
end
end
section
noncomputable def gi (W:Wd) (F:Addr→Prop) (as:List Addr) (s:Shared) (t:T) (v:Value) (s':Shared):Prop:=
 gu W F s'.heap as t v∧(∀ b o,b∉as→s.heap.get? b=some o→s'.heap.get? b=some o)∧s'.gens=s.gens∧s'.os=s.os
theorem bR.set {h:Heap} {t:T} (y:VR W F h t v):∀ {vs:List Value},bR W F h xs vs→∀ (i:Nat),bR W F h (xs.set i t) (vs.set i v):=by
 induction xs with
 | nil=>intro vs x i;rw [x.inv0];exact .nil
 | cons a xs ih=>
  intro vs x i
  obtain ⟨b,vs,x1,r⟩:=x.inv
  induction i with
  | zero=>exact .cons y r
  | succ i=>exact .cons x1 (ih r i)
section
variable {W:Wd} {F:Addr→Prop} {s:Shared} {A:Around} {E:Value→Shared→Prop} {as:List Addr}
theorem yL {tk:Nat} (hF:¬ F a) (hs:Heap.SameBut a s.heap h') (hg:h'.get? a=some (seqObj "list" vs.toArray n)) (r:bR W F s.heap xs vs) (l:xs.length≤SZ) :
  gi W F [a] s (.list xs) (.ref a) { s with heap:=h',toks:=tk }:=by
 refine ⟨.list rfl hg l (r.mono (fun _ f=>f) fun b o f e=>?_),fun b o hb e=>?_,rfl,rfl⟩
 ·exact (hs.2 b (fun z=>hF (z▸f))).trans e
 ·exact (hs.2 b (fun z=>hb (by rw [z];exact aV.mpr rfl))).trans e
theorem wJ {ep:Nat} {tk:Nat} (hF:¬ F a) (hs:Heap.SameBut a s.heap h') (hg:h'.get? a=some (aL es ep)) (r:cM W F h' kvs es) (l:kvs.length≤SZ)
  (n:(kvs.map (·.1)).Nodup∧(a==sysModules)=false):gi W F [a] s (.dict kvs) (.ref a) { s with heap:=h',toks:=tk }:=by
 refine ⟨.dict rfl hg l n r,fun b o hb e=>?_,rfl,rfl⟩
 exact (hs.2 b (fun z=>hb (by rw [z];exact aV.mpr rfl))).trans e
theorem yZ {c:String} {xs:Array Value} (f:Array Value→Array Value):∃ n',Obj.mapSeq f (seqObj c xs n)=seqObj c (f xs) n':=⟨_,rfl⟩
inductive NJ (W:Wd) (F:Addr→Prop) (h:Heap) (xs:List T):List Addr→Value→Prop where
 | mk (vs:List Value) (a:Addr) (n:Nat) (g:h.get? a=some (seqObj "list" vs.toArray n)) (l:xs.length≤SZ) (r:bR W F h xs vs):NJ W F h xs [a] (.ref a)
theorem gu.l {h:Heap} (x:gu W F h as (.list xs) v):NJ W F h xs as v:=by
 cases x with | list e g l r=>rw [e];exact ⟨_,_,_,g,l,r⟩
inductive OB (W:Wd) (F:Addr→Prop) (h:Heap) (kvs:List (bK×T)):List Addr→Value→Prop where
 | mk (es:List DictEntry) (a:Addr) (ep:Nat) (g:h.get? a=some (aL es ep)) (l:kvs.length≤SZ) (n:(kvs.map (·.1)).Nodup∧(a==sysModules)=false) (r:cM W F h kvs es):OB W F h kvs [a] (.ref a)
theorem gu.d {h:Heap} (x:gu W F h as (.dict kvs) v):OB W F h kvs as v:=by
 cases x with | dict e g l n r=>rw [e];exact ⟨_,_,_,g,l,n,r⟩
theorem jx {ys:List T} {f:Array Value→Array Value} (hF:¬ F a) (hg:s.heap.get? a=some (seqObj "list" vs.toArray n)) (e:f vs.toArray=us.toArray) (r:bR W F s.heap ys us) (l:ys.length≤SZ) :
  gi W F [a] s (.list ys) (.ref a) { s with heap:=s.heap.update a (Obj.mapSeq f) }:=by
 obtain ⟨n',hn'⟩:=yZ (c:="list") (xs:=vs.toArray) (n:=n) f
 refine yL (tk:=s.toks) (vs:=us) hF (fZ _ _ _) (n:=n') ?_ r l
 refine (Heap.get?_update_self (Obj.mapSeq f) hg (by rw [hn'];rfl)).trans ?_
 rw [hn',e]
theorem zh {o i v t:T} {vi vv:Value} (hu:A.units+20 < cLine) (hF:∀ a∈as,¬ F a) (x:gu W F s.heap as o vo) (y:VR W F s.heap i vi) (z:VR W F s.heap v vv) (e:jJ o i v=some t) :
  wpAny (model W.prog W.w) A (setItem vo vi vv) (fun _ s'=>gi W F as s t vo s') E s:=by
 refine cps fun G kk=>?_
 cases o with
 | list xs=>
  refine kk (dw e fun k hk e=>ifs e fun hk2 e=>?_)
  rw [e]
  obtain ⟨vs,a,n,hg,l,r⟩:=x.l
  obtain ⟨u,rfl⟩:=(cC hk▸y).q.int_inv
  have hl:=r.length
  have hF':¬ F a:=hF a (.head _)
  have hfit:=ib l
  unfold setItem
  try with_reducible refine b5 ?_
  first | refine ac (al ?_) | skip
  refine ac (wpAny_sequenceKey (pA hg).typeIs (by decide) ?_)
  refine ac (wpAny_callSpecial?_slot (name:=Str.ofString "__setitem__") (pA hg).typeIs slot_list_setitem
   (eR slot_list_setitem (pA hg).typeIs entry_list_setitem ?_ (args_list_setitem _ _ _)))
  refine ac (m:=Builtin.List.listSubscript? (.int k u)) (wpAny_listSubscript_int (fitsIndex_of hk2.1 (by lia)) ?_)
  clear hfit
  obtain ⟨j,rfl⟩:=Int.eq_ofNat_of_zero_le hk2.1
  have hj:j < vs.toArray.size:=by rw [cO,← hl];exact hk2.2
  refine ac (m:=seqItemAt a j >>= fun r=>pure (r.map (j,·))) (ac (wpAny_seqItemAt hg rfl (al ?_)))
  rw [show vs.toArray[j]? = some vs.toArray[j] from Array.getElem?_eq_getElem hj]
  have fin:gi W F [a] s (.list (xs.set j v)) (.ref a) { s with heap:=s.heap.update a (Obj.mapSeq (·.setIfInBounds j vv)) }:=jx hF' hg (List.setIfInBounds_toArray ..) (bR.set z r j) (by rw [List.length_set];exact l)
  refine ac (m:=setSeqItemAt a j vv) (wpAny_setSeqItemAt hg rfl ?_)
  first
   | exact ac (al (al ⟨.none,rfl,al fin⟩))
   | exact al ⟨.none,rfl,al fin⟩
 | dict kvs=>
  refine kk (dw e fun k hk e=>eT e fun kvs' hd e=>pV hd fun h1 h2 z2=>?_)
  rw [e,z2]
  obtain ⟨es,a,ep,hg,l,hn,r⟩:=x.d
  have k2:VR W F s.heap (cf k) vi:=gH hk▸y
  have hF':¬ F a:=hF a (.head _)
  unfold setItem
  try with_reducible refine b5 ?_
  first | refine ac (al ?_) | skip
  refine ac (wpAny_sequenceKey (aA hg) (by decide) ?_)
  refine ac (wpAny_callSpecial?_slot (name:=Str.ofString "__setitem__") (aA hg) slot_dict_setitem
   (eR slot_dict_setitem (aA hg) entry_dict_setitem ?_ (args_dict_setitem _ _ _)))
  refine ac (m:=Builtin.Dict.notOrdered "__setitem__" ⟨[.ref a,vi,vv],[]⟩) (wpAny_notOrdered_dict (aA hg) ?_)
  refine ac (m:=dictSet a vi vv) (pU (eD (Nat.add_le_add_left (by decide:1≤20) _) hu) hF' hg r hn.1 h1 h2 k2 z fun es' ep' h' tk hg' hs' r'=>al ⟨.none,rfl,al ?_⟩)
  exact wJ hF' hs' hg' r' (aH g4 h2) ⟨kf hn.1,hn.2⟩
 | _=>exact nn e
inductive Ou (W:Wd) (as:List Addr) (vo:Value) (f:T→T→Option T) (Q:Value→Shared→Prop) (vv:Value) (s₁:Shared):Prop where
 | mk (F:Addr→Prop) (o v t:T) (hF:∀ a∈as,¬ F a) (x:gu W F s₁.heap as o vo) (y:VR W F s₁.heap v vv) (e:f o v=some t) (q:∀ s',gi W F as s₁ t vo s'→Q .none s')
theorem BF {x:Sem Value} {pos:Pos} {Q:Value→Shared→Prop} (h:wpAny (model W.prog W.w) A x (Ou W as vo GW Q) E s) (hl:∃ a,vo=.ref a) :
  wpAny (model W.prog W.w) A (callWith pos (.builtin "list.append") [vo] [(false,x)] []) Q E s:=by
 obtain ⟨l,rfl⟩:=hl
 refine P.append_list (ax h (fun vv s₁ h'1=>?_) am)
 obtain ⟨F,o,v,t,hF,x,y,e,q⟩:=h'1
 refine dw e fun xs hx e=>ifs e fun hlt e=>?_
 rw [e] at q
 have x:=(et hx▸x).l
 generalize hw:Value.ref l=w at x
 obtain ⟨vs,a,n,hg,ll,r⟩:=x
 obtain rfl:=Value.ref.inj hw
 exact ⟨_,_,by rw [cO,← r.length];exact aH (Nat.le_of_lt hlt) gG,hg,q _ (jx (hF l (.head _)) hg (List.push_toArray ..) (r.append (.cons y .nil)) (by rw [bS];exact hlt))⟩
theorem B9 {x:Sem Value} {pos:Pos} {Q:Value→Shared→Prop} (h:wpAny (model W.prog W.w) A x (Ou W as vo AQ Q) E s) (hl:∃ a,vo=.ref a) :
  wpAny (model W.prog W.w) A (callWith pos (.builtin "list.extend") [vo] [(false,x)] []) Q E s:=by
 obtain ⟨l,rfl⟩:=hl
 refine P.extend_list (ax h (fun vv s₁ h'1=>?_) am)
 obtain ⟨F,o,v,t,hF,x,y,e,q⟩:=h'1
 refine dw e fun xs hx e=>dw e fun ys hy e=>ifs e fun hlt e=>?_
 rw [e] at q
 have x:=(et hx▸x).l
 generalize hw:Value.ref l=w at x
 obtain ⟨vs,a,n,hg,ll,r⟩:=x
 obtain rfl:=Value.ref.inj hw
 obtain ⟨us,b,n2,rfl,fb,g2,l2,r2⟩:=(et hy▸y).list_inv
 have hlt':vs.length+us.length≤SZ:=by rw [← r.length,← r2.length];exact hlt
 have S:=aH hlt' gG
 refine ⟨b,vs.toArray,us.toArray,n,n2,aH (Nat.le_add_right _ _) S,Nat.le_succ_of_le S,?_,rfl,hg,g2,q _ (jx (hF l (.head _)) hg (List.append_toArray ..) (r.append r2) (by rw [bS];exact hlt))⟩
 have:Builtin.List.listTooLong (vs.toArray.size+us.toArray.size)=false:=by
  unfold Builtin.List.listTooLong;exact decide_eq_false (Nat.not_lt.mpr S)
 rw [this,Bool.and_false];exact bO
end
end
section
noncomputable abbrev xZ (l u st:Value):Obj:={ cls:=.type "slice",data:=.fields #[l,u,st] }
section
variable {W:Wd} {F:Addr→Prop} {s:Shared} {A:Around} {E:Value→Shared→Prop}
theorem pd {sl:Addr} {vl vu:Value} {lo hi:Option Int} {Q:Int×Int×Nat→Shared→Prop} (hs:s.heap.IsSliceOf sl vl vu .none) (pl:IsPart vl lo) (pu:IsPart vu hi)
  (h:Q ((Builtin.Slice.sliceAdjust lo hi 1 n).1,1,Builtin.Slice.slicePlaces (Builtin.Slice.sliceAdjust lo hi 1 n).1 (Builtin.Slice.sliceAdjust lo hi 1 n).2 1) s) :
  wpAny (model W.prog W.w) A (Builtin.Slice.sliceApplied (.ref sl) (pure (n:Int))) Q E s:=by
 obtain ⟨os,hos,hcs,hds⟩:=id hs
 have part:∀ {v k} {Q:Option Int→Shared→Prop},IsPart v k→Q k s→wpAny (model W.prog W.w) A (Builtin.Slice.slicePartIndex v) Q E s:=fun p q=>by
  induction p with
  | none=>exact slicePart_none q
  | int i t=>exact slicePart_int q
 unfold Builtin.Slice.sliceApplied Builtin.Slice.sliceFields
 refine ac (ac (wpAny_field hos hds (x:=vl) rfl (ac (wpAny_field hos hds (x:=vu) rfl (ac (wpAny_field hos hds (x:=.none) rfl (al ?_)))))))
 refine ac (slicePart_none ?_)
 show wpAny _ _ (if ((1:Int)==0)=true then _ else _) _ _ s
 rw [av (by decide)]
 refine ac (part pl (ac (part pu (ac (al ?_)))))
 exact al h
theorem DM (xs:Array Value) (a n:Nat):((List.range n).filterMap fun (k:Nat)=>xs[((a:Int)+(k:Int)*1).toNat]?).toArray=((xs.toList.drop a).take n).toArray:=by
 have e:(fun (k:Nat)=>xs[((a:Int)+(k:Int)*1).toNat]?)=fun k=>xs[a+k]?:=by
  funext k
  have:((a:Int)+(k:Int)*1).toNat=a+k:=by lia
  rw [this]
 rw [e]
 have:=pick_run xs a n
 rw [List.filterMap_map] at this
 have e2:((fun x=>xs[x]?) ∘ fun x=>a+x)=fun k=>xs[a+k]?:=rfl
 rw [e2] at this
 rw [this]
theorem t3 {sl:Addr} {ys:List T} {t:Value} {vl vu:Value} {lo hi:Option Int} {a k:Nat} (x:VR W F s.heap (.tup xs) t) (hs:s.heap.IsSliceOf sl vl vu .none) (pl:IsPart vl lo) (pu:IsPart vu hi)
  (h1:(Builtin.Slice.sliceAdjust lo hi 1 xs.length).1=a) (h2:Builtin.Slice.slicePlaces (Builtin.Slice.sliceAdjust lo hi 1 xs.length).1 (Builtin.Slice.sliceAdjust lo hi 1 xs.length).2 1=k) (hy:ys=(xs.drop a).take k) :
  wpAny (model W.prog W.w) A (PySem.getItem t (.ref sl)) (fG W F s (.tup ys)) E s:=by
 obtain ⟨vs,ta,n,rfl,fa,g,l,r⟩:=id x.tup_inv
 have hl:=r.length
 obtain ⟨os,hos,hcs,hds⟩:=id hs
 have hTs:s.TypeIs (.ref sl) "slice":=⟨os,hos,hcs⟩
 have ht:IsTup s.heap ta vs.toArray:=A2 g
 unfold PySem.getItem
 try with_reducible refine b5 ?_
 first | refine ac (al ?_) | skip
 refine ac (wpAny_sequenceKey ht.typeIs (by decide) ?_)
 refine ac (wpAny_callSpecial?_slot (name:=Str.ofString "__getitem__") ht.typeIs slot_tuple_getitem
  (eR slot_tuple_getitem ht.typeIs entry_tuple_getitem ?_ (args_tuple_getitem _ _)))
 show wpAny _ _ (Builtin.Tuple.tupleItemsOf (.ref ta) >>= _) _ _ s
 refine ac (tupleItemsOf_ ht ?_)
 refine ac (wpAny_typeOf hTs ?_)
 rw [au (by decide),cO,← hl]
 refine ac (pd hs pl pu ?_)
 rw [h2,h1]
 dsimp only
 by_cases hw:((a:Int)==0&&(1:Int)==1&&k==xs.length)=true
 ·rw [au hw]
  simp only [bC,bm] at hw
  have ha:a=0:=Int.ofNat.inj hw.1.1
  have hk:k=xs.length:=hw.2
  subst ha;subst hk
  rw [List.drop_zero,List.take_length] at hy
  subst hy
  refine ac ?_
  unfold Builtin.Tuple.tupleIsExact
  refine ac (wpAny_typeOf ht.typeIs (al ?_))
  rw [au (by decide)]
  refine ac (wpAny_rule ?_)
  exact al ⟨_,rfl,al (fG.of_same x)⟩
 ·rw [av hw,DM]
  have hz:sizeOk (.seq ((vs.toArray.toList.drop a).take k).toArray):=by
   show ((vs.toArray.toList.drop a).take k).toArray.size≤sizeLine
   rw [cO,List.length_take,List.length_drop]
   exact aH (aH (Nat.min_le_right _ _) (Nat.sub_le _ _)) (hl▸aH l gG)
  have fin:fG W F s (.tup ys) (.ref s.heap.objs.size) { s with heap:=s.heap.push (seqObj "tuple" ((vs.drop a).take k).toArray 0) }:=by
   subst hy
   exact fG.tup (tk:=s.toks) (n:=0) ((r.drop a).take k) (by rw [List.length_take,List.length_drop];exact aH (aH (Nat.min_le_right _ _) (Nat.sub_le _ _)) l)
  first
   | exact ac (m:=Builtin.Tuple.tupleExact _) (gy (al ⟨_,rfl,al fin⟩) hz)
   | exact ac (m:=Builtin.Tuple.tupleExact _) (gy (ac (al (al ⟨_,rfl,al fin⟩))) hz)
   | exact ac (ac (m:=Builtin.Tuple.tupleExact _) (gy (al (al ⟨_,rfl,al fin⟩)) hz))
   | exact ac (ac (m:=Builtin.Tuple.tupleExact _) (gy (al ⟨_,rfl,al fin⟩) hz))
theorem oM (h n:Nat):Builtin.Slice.sliceAdjust none (some (h:Int)) 1 (n:Int)=(0,((min h n:Nat):Int)):=by
 unfold Builtin.Slice.sliceAdjust
 have h1:¬ ((1:Int) < 0):=by lia
 have h2:¬ ((h:Int) < 0):=by lia
 simp only [h1,h2,if_false]
 congr 1
 lia
theorem qj (l n:Nat):Builtin.Slice.sliceAdjust (some (l:Int)) (some (-1)) 1 (n:Int)=(((min l n:Nat):Int),((n - 1:Nat):Int)):=by
 unfold Builtin.Slice.sliceAdjust
 have h1:¬ ((1:Int) < 0):=by lia
 have h2:¬ ((l:Int) < 0):=by lia
 have h3:(-1:Int) < 0:=by lia
 simp only [h1,h2,h3,if_false,if_true]
 congr 1<;>lia
theorem qr (a b:Nat):Builtin.Slice.slicePlaces (a:Int) (b:Int) 1=b - a:=by
 unfold Builtin.Slice.slicePlaces
 have h1:(1:Int) > 0:=by lia
 simp only [h1,if_true,Int.ediv_one]
 split<;>lia
theorem MG {o t:T} {h:Int} {u:Tok} {sl:Addr} (x:VR W F s.heap o vo) (hs:s.heap.IsSliceOf sl .none (.int h u) .none) (e:cutT o none (some h)=some t) :
  wpAny (model W.prog W.w) A (PySem.getItem vo (.ref sl)) (fG W F s t) E s:=by
 refine cps fun G kk=>?_
 cases o with
 | tup xs=>
  refine kk (eT e fun ys hy z=>ifs hy fun h0 hy2=>?_)
  obtain ⟨k,rfl⟩:=Int.eq_ofNat_of_zero_le h0
  rw [z,hy2]
  refine t3 (a:=0) (k:=min k xs.length) x hs .none (.int _ _) ?_ ?_ ?_
  ·rw [oM];rfl
  ·rw [oM];exact qr 0 _
  ·rw [List.drop_zero,Int.toNat_natCast,← List.take_eq_take_min]
 | list xs=>
  refine kk (eT e fun ys hy z=>ifs hy fun h0 hy2=>?_)
  obtain ⟨k,rfl⟩:=Int.eq_ofNat_of_zero_le h0
  rw [z,hy2]
  obtain ⟨vs,a,n,rfl,fa,g,l,r⟩:=x.list_inv
  refine wpAny_getItem_list_slice (pA g) hs .none (.int _ _) .none (by simp) ?_ (by rw [cO,← r.length];exact aH l gG)
  rw [slicePick_upto' _ k,Int.toNat_natCast]
  exact (mh.list (tk:=s.toks) (n:=0) (r.take k) (by rw [List.length_take];exact aH (Nat.min_le_right ..) l)).res
 | _=>exact nn e
theorem IL {o t:T} {l h:Int} {u u':Tok} {sl:Addr} (x:VR W F s.heap o vo) (hs:s.heap.IsSliceOf sl (.int l u') (.int h u) .none) (e:cutT o (some l) (some h)=some t) :
  wpAny (model W.prog W.w) A (PySem.getItem vo (.ref sl)) (fG W F s t) E s:=by
 refine cps fun G kk=>?_
 cases o with
 | tup xs=>
  refine kk (eT e fun ys hy z=>ifs hy fun h0 hy2=>?_)
  obtain ⟨h0,rfl⟩:=h0
  obtain ⟨k,rfl⟩:=Int.eq_ofNat_of_zero_le h0
  rw [z,hy2]
  refine t3 (a:=min k xs.length) (k:=xs.length - 1 - min k xs.length) x hs (.int _ _) (.int _ _) ?_ ?_ ?_
  ·rw [qj]
  ·rw [qj];exact qr _ _
  ·rw [Int.toNat_natCast,List.drop_take]
   rcases Nat.le_total k xs.length with q | q
   ·rw [Nat.min_eq_left q]
   ·rw [Nat.min_eq_right q,List.drop_of_length_le q,List.drop_length,List.take_nil,List.take_nil]
 | _=>exact nn e
theorem CZ {P:Prop} {a:T} (x:dY W F s.heap a v) (e:ML a=some xs) (k:a=.tup xs→dY W F s.heap (.tup xs) v→P) (l:dY W F s.heap (.list xs) v→P):P:=by
 cases a with
 | tup ys=>obtain rfl:=az e;exact k rfl x
 | list ys=>obtain rfl:=az e;exact l x
 | _=>exact nn e
theorem FG {a t:T} (x:dY W F s.heap a v) (e:bi .tuple a=some t):wpAny (model W.prog W.w) A (call (.type "tuple") [v]) (fG W F s t) E s:=by
 refine eT e fun xs h z=>z▸CZ x h (fun _ x=>?_) fun x=>?_
 ·obtain ⟨vs,a,n,rfl,g,l,r⟩:=x.tup_inv
  exact call_tuple_tup (A2 g) (fG.of_same x.tup_vr)
 ·obtain ⟨vs,a,n,rfl,g,l,r⟩:=x.list_inv
  refine call_tuple_list (pA g) (fun h' hk=>?_) (by rw [cO,← r.length];exact aH l gG)
  have G:b9 F s F { s with heap:=h' }:=⟨rfl,rfl,hk,fun _ f=>f,fun _=>.inl⟩
  obtain ⟨F',g',r'⟩:=fG.tup (W:=W) (F:=F) (s:={ s with heap:=h' }) (tk:=s.toks) (n:=0) (r.grow G) l
  exact ⟨F',G.trans g',r'⟩
theorem Io {a t:T} (x:dY W F s.heap a v) (e:bi .list a=some t):wpAny (model W.prog W.w) A (call (.type "list") [v]) (fG W F s t) E s:=by
 have fin:∀ {xs:List T} {vs:List Value},bR W F s.heap xs vs→xs.length≤SZ→∀ h' c',(∀ b o',s.heap.get? b=some o'→h'.get? b=some o')→h'.get? s.heap.objs.size=some { cls:=.type "list",dict:=none,data:=.seq vs.toArray c',slots:=#[] }→
   fG W F s (.list xs) (.ref s.heap.objs.size) { s with heap:=h' }:=fun r l h' c' hk hg=>by
  have G:b9 F s F { s with heap:=h' }:=⟨rfl,rfl,hk,fun _ f=>f,fun _=>.inl⟩
  exact (show mh W F s _ _ _ from ⟨[s.heap.objs.size],G,.list rfl hg l (r.grow G),cP.mpr ⟨(fun h=>nomatch h),cK⟩,fun a h=>by rw [aV.mp h];exact aS _⟩).res
 refine eT e fun xs h z=>z▸CZ x h (fun _ x=>?_) fun x=>?_
 ·obtain ⟨vs,a,n,rfl,g,l,r⟩:=x.tup_inv
  exact call_list_seq a (.inr rfl) g rfl rfl (fin r l) (by rw [cO,← r.length];exact aH l gG)
 ·obtain ⟨vs,a,n,rfl,g,l,r⟩:=x.list_inv
  exact call_list_seq a (.inl rfl) g rfl rfl (fin r l) (by rw [cO,← r.length];exact aH l gG)
theorem KA {a t:T} (x:dY W F s.heap a v) (e:bi .abs a=some t):wpAny (model W.prog W.w) A (call (.builtin "abs") [v]) (fG W F s t) E s:=by
 refine eT e fun i h z=>?_
 obtain ⟨u,rfl⟩:=(cC h▸x).int_inv
 rw [z]
 refine call_abs_int fun u tk=>?_
 rw [show (if i < 0 then -i else i)=(i.natAbs:Int) by split<;>lia]
 exact .of_toks (.int _ _)
theorem Mu {a t:T} (x:dY W F s.heap a v) (e:bi .int a=some t):wpAny (model W.prog W.w) A (call (.type "int") [v]) (fG W F s t) E s:=by
 refine eT e fun i h z=>?_
 obtain ⟨u,rfl⟩:=(cC h▸x).int_inv
 rw [z]
 exact call_int_int (.of_same (.int _ _))
theorem Et {a t:T} (x:dY W F s.heap a v) (e:bi .range a=some t):wpAny (model W.prog W.w) A (call (.type "range") [v]) (fG W F s t) E s:=by
 refine dw e fun i h e=>ifs e fun hi z=>?_
 obtain ⟨u,rfl⟩:=(cC h▸x).int_inv
 rw [z]
 refine call_range_1 ?_
 have hg:(s.heap.push { cls:=.type "range",data:=.fields #[.int 0 s.toks,.int i u,.int 1 (s.toks+1)] }).get? s.heap.objs.size=some { cls:=.type "range",data:=.fields #[.int 0 s.toks,.int i u,.int 1 (s.toks+1)] }:=dG _ rfl
 refine ⟨fun a=>F a∨a∈[s.heap.objs.size],(b9.push F _ _).add (fun a h=>by rw [aV.mp h];exact aS _) (fun a h=>by rw [aV.mp h];exact ⟨_,hg⟩),?_⟩
 exact .rng (.inr (.head _)) hg rfl (Int.toNat_of_nonneg hi.1).symm rfl (Int.toNat_le.mpr hi.2)
end
end
section
inductive Hd where
 | list (l:Addr) | tup (t:Addr) | keys (d:Addr) (n ep:Nat) | vals (v d:Addr) (n ep:Nat) | rng (n:Nat)
noncomputable def gY (h:Heap) (I:Addr) (i:Nat):Hd→Prop
 | .list l=>h.IsListIter I l i
 | .tup t=>h.IsTupleIter I t i
 | .keys d n ep=>h.IsKeyIter I d i n ep
 | .vals _ d n ep=>h.IsValIter I d i n ep
 | .rng n=>IsRangeIter h I (i:Int) ((n:Int) - i) 1
noncomputable def r6 (W:Wd) (F:Addr→Prop) (h:Heap) (xs:List T):Hd→Prop
 | .list l=>∃ vs n,h.get? l=some (seqObj "list" vs.toArray n)∧bR W F h xs vs
 | .tup t=>∃ vs n,h.get? t=some (seqObj "tuple" vs.toArray n)∧bR W F h xs vs
 | .keys d n ep=>∃ kvs es,h.get? d=some (aL es ep)∧es.length=n∧cM W F h kvs es∧xs=kvs.map fun p=>cf p.1
 | .vals _ d n ep=>∃ kvs es,h.get? d=some (aL es ep)∧es.length=n∧cM W F h kvs es∧xs=kvs.map (·.2)
 | .rng n=>xs=(List.range n).map fun i=>.int (Int.ofNat i)
noncomputable def Hd.at:Hd→List Addr
 | .list l=>[l] | .tup t=>[t] | .keys d _ _=>[d] | .vals _ d _ _=>[d] | .rng _=>[]
section
variable {W:Wd} {F F':Addr→Prop} {h h':Heap} {I:Addr} {i:Nat} {hd:Hd} {xs:List T}
theorem gY.keep (x:gY h I i hd) (k:∀ o,h.get? I=some o→h'.get? I=some o):gY h' I i hd:=by
 induction hd with
 | rng n=>exact k _ x
 | _=>obtain ⟨o,ho,r⟩:=x;exact ⟨o,k _ ho,r⟩
theorem gY.live (x:gY h I i hd):∃ o,h.get? I=some o:=by
 induction hd with
 | rng n=>exact ⟨_,x⟩
 | _=>obtain ⟨o,ho,r⟩:=x;exact ⟨o,ho⟩
theorem r6.keep (x:r6 W F h xs hd) (hF:∀ a,F a→F' a) (k:∀ a o,F a∨a∈hd.at→h.get? a=some o→h'.get? a=some o):r6 W F' h' xs hd:=by
 have kF:=fun a o f=>k a o (.inl f)
 induction hd with
 | list l=>obtain ⟨vs,n,g,r⟩:=x;exact ⟨vs,n,k _ _ (.inr (by simp [Hd.at])) g,r.mono hF kF⟩
 | tup l=>obtain ⟨vs,n,g,r⟩:=x;exact ⟨vs,n,k _ _ (.inr (by simp [Hd.at])) g,r.mono hF kF⟩
 | keys d n ep=>obtain ⟨kvs,es,g,l,r,e⟩:=x;exact ⟨kvs,es,k _ _ (.inr (by simp [Hd.at])) g,l,r.mono hF kF,e⟩
 | vals v d n ep=>obtain ⟨kvs,es,g,l,r,e⟩:=x;exact ⟨kvs,es,k _ _ (.inr (by simp [Hd.at])) g,l,r.mono hF kF,e⟩
 | rng n=>exact x
end
section
variable {prog:Program} {w:World} {A:Around} {E:Value→Shared→Prop} {s:Shared} {es:List DictEntry} {d it:Addr} {i ep:Nat}
theorem j5 [BEq α] [LawfulBEq α] (n:α):¬ (n != n)=true:=by rw [bne_self_eq_false];exact bO
theorem F1:(if ((i:Int) < 0) then none else es.toArray[(i:Int).toNat]?)=es[i]?:=by rw [av (Int.not_lt.mpr (Int.natCast_nonneg i)),Int.toNat_natCast,List.getElem?_toArray]
theorem zq {P':α→Shared→Prop} {E':Value→Shared→Prop} (hh:A.handled=none) (h:∀ h' e,(∀ b o,s.heap.get? b=some o→h'.get? b=some o)→Shared.TypeIs { s with heap:=h' } (.ref e) "StopIteration"→E' (.ref e) { s with heap:=h' }) :
  wpAny (model prog w) A (newExc (.type "StopIteration") [] >>= fun e=>raiseNew (α:=α) e) P' E' s:=by
 refine ac ?_
 unfold newExc newTuple
 refine ac (gy ?_ (by size_fits))
 refine ac (m:=firstArgMember _ _) (wpAny_of_eq (a:=Value.none) (by first | rfl | (simp only [firstArgMember];rfl)) ?_)
 refine gy ?_ (by size_fits)
 unfold raiseNew
 refine ac (wpAny_handled ?_)
 rw [hh]
 refine ac (al (wpAny_throw (h _ _ (fun b o e=>bU _ (bU _ e)) ?_)))
 exact ⟨_,dG _ rfl,rfl⟩
theorem m8 {R:α→Shared→Prop} {Q:Option Value→Shared→Prop} (hh:A.handled=none) (hq:∀ h',(∀ b o,s.heap.get? b=some o→h'.get? b=some o)→Q none { s with heap:=h' }) :
  wpAny (model prog w) A.in1 (newExc (.type "StopIteration") [] >>= fun e=>(raiseNew e:Sem α)) R (fun e s'=>wpAny (model prog w) A (isInstance e (.type "StopIteration") >>= fun b=>if b=true then pure none else throw e) Q E s') s:=
 zq (show A.in1.handled=none from hh) fun h' e k hT=>ac (wpAny_isInstance (T:="StopIteration") (b:=true) hT isSubtype_stop (al (hq h' k)))
theorem uj {Q:Option Value→Shared→Prop} (hh:A.handled=none) (hit:s.heap.IsKeyIter it d i es.length ep) (hod:s.heap.get? d=some (aL es ep))
  (h1:∀ e,es[i]? = some e→∀ h',h'.IsKeyIter it d (i+1) es.length ep→Heap.SameBut it s.heap h'→Q (some e.key) { s with heap:=h' })
  (h2:es[i]? = none→∀ h',Heap.ExtBut it s.heap h'→Q none { s with heap:=h' }):wpAny (model prog w) A (pyNext (.ref it)) Q E s:=by
 obtain ⟨o,ho,hc,hd⟩:=id hit
 unfold pyNext
 refine ac (wpAny_attempt (wpAny_callSpecial?_slot (name:=Str.ofString "__next__") hit.typeIs PySem.F.slot_dict_keyiterator_next
  (eR PySem.F.slot_dict_keyiterator_next hit.typeIs PySem.F.entry_dict_keyiterator_next ?_ (PySem.F.args_dict_keyiterator_next_1 _))))
 refine ac (al (ac (ac ?_)))
 refine ac (wpAny_typeNameOfWhole_keyiter hit.typeIs (al ?_))
 refine ac (wpAny_fieldsOf ho hd ?_)
 show wpAny _ _ (if (Value.ref d==Value.none)=true then _ else _) _ _ s
 refine bD bO (ac (al (ac (fY hod rfl (bD (j5 _) (ac (al (ac (wpAny_dictEpoch hod rfl (bD (j5 _) ?_))))))))))
 refine al ?_
 show wpAny _ _ (match (if ((i:Int) < 0) then none else es.toArray[(i:Int).toNat]?) with | some e=>_ | none=>_) _ _ s
 rw [F1]
 induction hx:es[i]? with
 | none=>
  refine ac (ac (wpAny_typeNameOfWhole_keyiter hit.typeIs (al ?_)))
  show wpAny _ _ (setField (.ref it) 0 .none >>= _) _ _ s
  exact ac (wpAny_setField ho hd (Nat.zero_lt_succ _) (m8 hh fun h' k=>h2 hx _ fun b o hb e=>k b o ((ik _ _ (Ne.symm hb)).trans e)))
 | some e=>
  refine ac (ac (wpAny_typeNameOfWhole_keyiter hit.typeIs (al ?_)))
  refine ac (wpAny_isOneOf_keyiter hit.typeIs ?_)
  show wpAny _ _ (setField (.ref it) 1 (rawInt ((i:Int)+1)) >>= _) _ _ s
  refine ac (wpAny_setField ho hd (Nat.succ_lt_succ (Nat.zero_lt_succ _)) ?_)
  have hit':(s.heap.update it (Obj.mapFields (·.setIfInBounds 1 (rawInt ((i:Int)+1))))).IsKeyIter it d (i+1) es.length ep:=
   ⟨_,Heap.get?_update_self _ ho (Obj.isFreed_of_fields (Obj.data_mapFields hd _)),(Obj.cls_mapFields ..).trans hc,by rw [Obj.data_mapFields hd];rfl⟩
  refine ac (b5 ?_)
  refine ac (wpAny_isOneOf_keyiter (s:={ s with heap:=s.heap.update it (Obj.mapFields (·.setIfInBounds 1 (rawInt ((i:Int)+1)))) }) hit'.typeIs ?_)
  show wpAny _ _ (pure e.key) _ _ _
  exact al (al ⟨_,rfl,al (h1 e hx _ hit' (fZ ..))⟩)
theorem A7 {Q:Option Value→Shared→Prop} (hh:A.handled=none) (hit:s.heap.IsValIter it d i es.length ep) (hod:s.heap.get? d=some (aL es ep))
  (h1:∀ e,es[i]? = some e→∀ h',h'.IsValIter it d (i+1) es.length ep→Heap.SameBut it s.heap h'→Q (some e.val) { s with heap:=h' })
  (h2:es[i]? = none→∀ h',Heap.ExtBut it s.heap h'→Q none { s with heap:=h' }):wpAny (model prog w) A (pyNext (.ref it)) Q E s:=by
 obtain ⟨o,ho,hc,hd⟩:=id hit
 unfold pyNext
 refine ac (wpAny_attempt (wpAny_callSpecial?_slot (name:=Str.ofString "__next__") hit.typeIs PySem.F.slot_dict_valueiterator_next
  (eR PySem.F.slot_dict_valueiterator_next hit.typeIs PySem.F.entry_dict_valueiterator_next ?_ (PySem.F.args_dict_valueiterator_next_1 _))))
 refine ac (al (ac (ac ?_)))
 refine ac (wpAny_typeNameOfWhole_valiter hit.typeIs (al ?_))
 refine ac (wpAny_fieldsOf ho hd ?_)
 show wpAny _ _ (if (Value.ref d==Value.none)=true then _ else _) _ _ s
 refine bD bO (ac (al (ac (fY hod rfl (bD (j5 _) (ac (al (ac (wpAny_dictEpoch hod rfl (bD (j5 _) ?_))))))))))
 refine al ?_
 show wpAny _ _ (match (if ((i:Int) < 0) then none else es.toArray[(i:Int).toNat]?) with | some e=>_ | none=>_) _ _ s
 rw [F1]
 induction hx:es[i]? with
 | none=>
  refine ac (ac (wpAny_typeNameOfWhole_valiter hit.typeIs (al ?_)))
  show wpAny _ _ (setField (.ref it) 0 .none >>= _) _ _ s
  exact ac (wpAny_setField ho hd (Nat.zero_lt_succ _) (m8 hh fun h' k=>h2 hx _ fun b o hb e=>k b o ((ik _ _ (Ne.symm hb)).trans e)))
 | some e=>
  refine ac (ac (wpAny_typeNameOfWhole_valiter hit.typeIs (al ?_)))
  refine ac (wpAny_isOneOf_valiter hit.typeIs ?_)
  show wpAny _ _ (setField (.ref it) 1 (rawInt ((i:Int)+1)) >>= _) _ _ s
  refine ac (wpAny_setField ho hd (Nat.succ_lt_succ (Nat.zero_lt_succ _)) ?_)
  have hit':(s.heap.update it (Obj.mapFields (·.setIfInBounds 1 (rawInt ((i:Int)+1))))).IsValIter it d (i+1) es.length ep:=
   ⟨_,Heap.get?_update_self _ ho (Obj.isFreed_of_fields (Obj.data_mapFields hd _)),(Obj.cls_mapFields ..).trans hc,by rw [Obj.data_mapFields hd];rfl⟩
  refine ac (b5 ?_)
  refine ac (wpAny_isOneOf_valiter (s:={ s with heap:=s.heap.update it (Obj.mapFields (·.setIfInBounds 1 (rawInt ((i:Int)+1)))) }) hit'.typeIs ?_)
  refine ac (wpAny_isOneOf_valiter (s:={ s with heap:=s.heap.update it (Obj.mapFields (·.setIfInBounds 1 (rawInt ((i:Int)+1)))) }) hit'.typeIs ?_)
  show wpAny _ _ (pure e.val) _ _ _
  exact al (al ⟨_,rfl,al (h1 e hx _ hit' (fZ ..))⟩)
end
theorem bR.at? {h:Heap} (r:bR W F h xs vs) (i:Nat):(∃ x v,xs[i]? = some x∧vs[i]? = some v∧VR W F h x v)∨(xs[i]? = none∧vs[i]? = none):=by
 induction hx:xs[i]? with
 | some x=>obtain ⟨v,hv,rv⟩:=r.get hx;exact .inl ⟨x,v,rfl,hv,rv⟩
 | none=>
  refine .inr ⟨rfl,?_⟩
  rw [List.getElem?_eq_none_iff] at hx ⊢
  rw [← r.length];exact hx
theorem cM.none_at {h:Heap} (r:cM W F h kvs es) (he:es[i]? = none):kvs[i]? = none:=by
 rw [List.getElem?_eq_none_iff] at he ⊢
 rw [r.length];exact he
theorem cM.some_at {h:Heap} (r:cM W F h kvs es) {e:DictEntry} (he:es[i]? = some e) :
  ∃ k t,kvs[i]? = some (k,t)∧VR W F h (cf k) e.key∧VR W F h t e.val:=by
 induction hx:kvs[i]? with
 | some x=>
  obtain ⟨e',h1,h2,_,h4⟩:=r.at (k:=x.1) (t:=x.2) hx
  rw [az (he.symm.trans h1)]
  exact ⟨x.1,x.2,rfl,h2,h4⟩
 | none=>
  rw [List.getElem?_eq_none_iff,r.length,← List.getElem?_eq_none_iff,he] at hx
  exact nn hx.symm
structure k4 (W:Wd) (F:Addr→Prop) (I:Addr) (i:Nat) (hd:Hd) (xs:List T) (s:Shared) (r:Option Value) (s':Shared):Prop where
 keep:∀ b o,b≠I→s.heap.get? b=some o→s'.heap.get? b=some o
 gens:s'.gens=s.gens
 os:s'.os=s.os
 res:match xs[i]? with | some x=>∃ v,r=some v∧VR W F s'.heap x v∧gY s'.heap I (i+1) hd | none=>r=none
inductive I5 (W:Wd) (F:Addr→Prop) (I:Addr) (i:Nat) (hd:Hd) (x:T) (s':Shared):Option Value→Prop where
 | mk (v:Value) (a:VR W F s'.heap x v) (b:gY s'.heap I (i+1) hd):I5 W F I i hd x s' (some v)
section
variable {W:Wd} {F:Addr→Prop} {s:Shared} {A:Around} {E:Value→Shared→Prop} {I:Addr} {i:Nat} {hd:Hd} {xs:List T}
theorem k4.fin {r:Option Value} (z:k4 W F I i hd xs s r s') (h:xs[i]? = none):r=none:=by
 have:=z.res
 rw [h] at this;exact this
theorem k4.item {r:Option Value} (z:k4 W F I i hd xs s r s') {x:T} (h:xs[i]? = some x):I5 W F I i hd x s' r:=by
 have:=z.res
 rw [h] at this
 obtain ⟨v,rfl,a,b⟩:=this
 exact ⟨v,a,b⟩
theorem k4.mkS {x:T} (hx:xs[i]? = some x) (k:∀ b o,b≠I→s.heap.get? b=some o→h'.get? b=some o) (a:VR W F h' x v) (b:gY h' I (i+1) hd):k4 W F I i hd xs s (some v) { s with heap:=h' }:=
 ⟨k,rfl,rfl,by rw [hx];exact ⟨v,rfl,a,b⟩⟩
theorem k4.mkN (hx:xs[i]? = none) (k:∀ b o,b≠I→s.heap.get? b=some o→h'.get? b=some o):k4 W F I i hd xs s none { s with heap:=h' }:=⟨k,rfl,rfl,by rw [hx]⟩
theorem j8 (hh:A.handled=none) (hF:¬ F I) (x:gY s.heap I i hd) (y:r6 W F s.heap xs hd) (hI:I∉hd.at):wpAny (model W.prog W.w) A (pyNext (.ref I)) (k4 W F I i hd xs s) E s:=by
 have kF:∀ {h':Heap},Heap.ExtBut I s.heap h'→∀ {t:T} {v:Value},VR W F s.heap t v→VR W F h' t v:=fun hs t v r=>r.mono (fun _ f=>f) fun a o f e=>hs a o (fun z=>hF (z▸f)) e
 refine cps fun G kk=>?_
 induction hd with
 | list l=>
  refine kk ?_
  obtain ⟨vs,n,g,r⟩:=y
  rcases r.at? i with ⟨x',v,h1,h2,h3⟩ | ⟨h1,h2⟩
  ·exact wpAny_pyNext_list_item x (pA g) (List.getElem?_toArray.trans h2) fun h' hit hs=>.mkS h1 hs.extBut (kF hs.extBut h3) hit
  ·exact wpAny_pyNext_list_end hh x (pA g) (List.getElem?_toArray.trans h2) fun h' hs=>.mkN h1 hs
 | tup l=>
  refine kk ?_
  obtain ⟨vs,n,g,r⟩:=y
  rcases r.at? i with ⟨x',v,h1,h2,h3⟩ | ⟨h1,h2⟩
  ·exact wpAny_pyNext_tuple_item x (JM g) (List.getElem?_toArray.trans h2) fun h' hit hs=>.mkS h1 hs.extBut (kF hs.extBut h3) hit
  ·exact wpAny_pyNext_tuple_end hh x (JM g) (List.getElem?_toArray.trans h2) fun h' hs=>.mkN h1 hs
 | keys d n ep=>
  refine kk ?_
  obtain ⟨kvs,es,g,rfl,r,rfl⟩:=y
  refine uj hh x g (fun e he h' hit hs=>?_) fun he h' hs=>?_
  ·obtain ⟨k,t,h1,h3,_⟩:=r.some_at he
   exact .mkS (by rw [dO,h1];rfl) hs.extBut (kF hs.extBut h3) hit
  ·exact .mkN (by rw [dO,r.none_at he];rfl) hs
 | vals v d n ep=>
  refine kk ?_
  obtain ⟨kvs,es,g,rfl,r,rfl⟩:=y
  refine A7 hh x g (fun e he h' hit hs=>?_) fun he h' hs=>?_
  ·obtain ⟨k,t,h1,_,h3⟩:=r.some_at he
   exact .mkS (by rw [dO,h1];rfl) hs.extBut (kF hs.extBut h3) hit
  ·exact .mkN (by rw [dO,r.none_at he];rfl) hs
 | rng n=>
  refine kk ?_
  subst y
  by_cases hlt:i < n
  ·refine wpAny_pyNext_range_item x (Int.sub_pos.mpr (Int.ofNat_lt.mpr hlt)) fun h' hit hs=>⟨hs.extBut,rfl,rfl,?_⟩
   rw [dO,List.getElem?_range hlt]
   refine ⟨_,rfl,.int _ _,?_⟩
   show IsRangeIter h' I (((i+1:Nat)):Int) ((n:Int) - ((i+1:Nat):Int)) 1
   rw [show (((i+1:Nat)):Int)=(i:Int)+1 from rfl,← Int.sub_sub]
   exact hit
  ·refine wpAny_pyNext_range_end hh x (Int.sub_nonpos_of_le (Int.ofNat_le.mpr (Nat.le_of_not_lt hlt))) fun h' hs=>⟨hs,rfl,rfl,?_⟩
   rw [dO,List.getElem?_eq_none (by rw [ei];exact Nat.le_of_not_lt hlt)];rfl
theorem z5 {Q:Value→Shared→Prop} (x:gY s.heap I i hd) (q:Q (.ref I) s):wpAny (model W.prog W.w) A (pyIter (.ref I)) Q E s:=by
 induction hd with
 | list l=>exact wpAny_pyIter_listiter x q
 | tup l=>exact wpAny_pyIter_tupleiter x q
 | keys d n ep=>exact wpAny_pyIter_keyiter x q
 | vals v d n ep=>exact wpAny_pyIter_valiter x q
 | rng n=>exact wpAny_pyIter_rangeiter x q
theorem rg {M:Model} {target:Expr} (x:gY s.heap I i hd) (q:Q () s):wpAny M A (letOwnedTupleGo target (.ref I) v) Q E s:=by
 have key:∃ o n vs,s.heap.get? I=some o∧o.cls=.type n∧o.data=.fields vs∧["enumerate","zip","dict_itemiterator","dict_reverseitemiterator","odict_iterator","itertools.zip_longest","itertools.pairwise"].contains n=false:=by
  induction hd with
  | list l=>obtain ⟨o,ho,hc,hd⟩:=x;exact ⟨o,_,_,ho,hc,hd,by decide⟩
  | tup l=>obtain ⟨o,ho,hc,hd⟩:=x;exact ⟨o,_,_,ho,hc,hd,by decide⟩
  | keys d n ep=>obtain ⟨o,ho,hc,hd⟩:=x;exact ⟨o,_,_,ho,hc,hd,by decide⟩
  | vals v d n ep=>obtain ⟨o,ho,hc,hd⟩:=x;exact ⟨o,_,_,ho,hc,hd,by decide⟩
  | rng n=>exact ⟨_,_,_,x,rfl,rfl,by decide⟩
 obtain ⟨o,n,vs,ho,hc,hdt,hn⟩:=key
 refine cps fun G kk=>?_
 cases target with
 | Tuple _ _ _ | List _ _=>
  induction v with
  | ref a=>exact kk (ac (wpAny_load ho (by rw [hc,hdt];exact bD (fun h=>absurd (hn.symm.trans (cB.mp h).1) bO) (al q))))
  | _=>exact kk (al q)
 | _=>exact kk (al q)
theorem Bw (h:n≤SZ):Builtin.Range.small 0 n 1=true:=by
 have hS:SZ=1048576:=rfl
 exact small_one (by decide) (by decide) (by lia) (by lia)
theorem Dp (n:Nat):(if (0:Int) < n then (n:Int) - 0 else 0)=(n:Int) - ((0:Nat):Int):=
 iteInduction (motive:=(·=(n:Int) - ((0:Nat):Int))) (fun _=>rfl) fun h=>by lia
inductive I3 (W:Wd) (F:Addr→Prop) (s:Shared) (t:T) (v:Value) (xs:List T) (it:Value) (s':Shared):Prop where
 | mk (I:Addr) (hd:Hd) (h1:it=.ref I) (h2:b9 F s F s') (h3:s.heap.get? I=none) (h4:gY s'.heap I 0 hd) (h5:r6 W F s'.heap xs hd) (h6:(∀ a∈hd.at,∃ o,s.heap.get? a=some o)) (h7:(VR W F s.heap t v→∀ a∈hd.at,F a)) (h8:(∀ ys,t=.list ys→∃ l,v=.ref l∧hd=.list l))
theorem vp {t:T} (x:dY W F s.heap t v) (e:items t=some xs):wpAny (model W.prog W.w) A (pyIter v) (I3 W F s t v xs) E s:=by
 have none':∀ {a o},s.heap.get? a=some o→a≠s.heap.objs.size:=fun e z=>Nat.lt_irrefl _ (z▸ef e)
 refine cps fun GG kk=>?_
 cases t with
 | list ys=>
  refine kk ?_
  obtain rfl:=az e
  obtain ⟨vs,a,n,rfl,g,l,r⟩:=x.list_inv
  exact wpAny_pyIter_list (pA g) ⟨_,.list a,rfl,b9.push F _ _,aS _,⟨_,dG _ rfl,rfl,rfl⟩,⟨vs,n,bU _ g,r.grow (b9.push F _ s.toks)⟩,
   fun b hb=>by rw [aV.mp hb];exact ⟨_,g⟩,fun z b hb=>by rw [aV.mp hb];exact z.refF,fun _ _=>⟨a,rfl,rfl⟩⟩
 | tup ys=>
  refine kk ?_
  obtain rfl:=az e
  obtain ⟨vs,a,n,rfl,g,l,r⟩:=x.tup_inv
  exact wpAny_pyIter_tuple (JM g) ⟨_,.tup a,rfl,b9.push F _ _,aS _,⟨_,dG _ rfl,rfl,rfl⟩,⟨vs,n,bU _ g,r.grow (b9.push F _ s.toks)⟩,
   fun b hb=>by rw [aV.mp hb];exact ⟨_,g⟩,fun z b hb=>by rw [aV.mp hb];exact z.refF,fun _ e=>nomatch e⟩
 | dict kvs=>
  refine kk ?_
  obtain rfl:=az e
  obtain ⟨es,d,ep,rfl,g,l,n,hs,r⟩:=x.dict_inv
  have hT:=aA g
  refine wpAny_pyIter_slot hT PySem.F.slot_dict_iter (eR PySem.F.slot_dict_iter hT PySem.F.entry_dict_iter ?_ (PySem.F.args_dict_iter_1 _))
  unfold Builtin.«dict.__iter__»
  refine ac ?_
  unfold Builtin.Dict.dictSlotNone
  refine ac (wpAny_notOrdered_dict hT ?_)
  show wpAny _ _ (pure (Value.ref d)) _ _ s
  refine al ?_
  show wpAny _ _ (Builtin.Dict.showsAll d >>= _) _ _ s
  unfold Builtin.Dict.showsAll
  rw [av (by rw [hs];exact bO)]
  refine ac (al (ac (fY g rfl (ac (wpAny_dictEpoch g rfl ?_)))))
  refine ac (gy (al ⟨_,rfl,"dict_keyiterator",_,⟨_,dG _ rfl,rfl⟩,PySem.F.slot_dict_keyiterator_next.lookup,?_⟩))
  exact ⟨_,.keys d es.length ep,rfl,b9.push F _ s.toks,aS _,⟨_,dG _ rfl,rfl,rfl⟩,⟨kvs,es,bU _ g,rfl,r.mono (fun _ f=>f) (fun a o _ e=>bU _ e),rfl⟩,
   fun b hb=>by rw [aV.mp hb];exact ⟨_,g⟩,fun z b hb=>by rw [aV.mp hb];exact z.refF,fun _ e=>nomatch e⟩
 | dvals kvs=>
  refine kk ?_
  obtain rfl:=az e
  obtain ⟨es,a,d,ep,rfl,ga,g,l,r⟩:=x.dvals_inv
  have hv:s.heap.IsValuesView a d:=⟨_,ga,rfl,rfl⟩
  refine wpAny_pyIter_slot hv.typeIs PySem.F.slot_dict_values_iter (eR PySem.F.slot_dict_values_iter hv.typeIs PySem.F.entry_dict_values_iter ?_ (PySem.F.args_dict_values_iter_1 _))
  unfold Builtin.«dict_values.__iter__»
  refine ac (al ?_)
  refine ac ?_
  unfold Builtin.Dict_items.dictOf
  refine ac (wpAny_field ga rfl (x:=.ref d) rfl (al ?_))
  refine ac ?_
  unfold Builtin.Dict_items.newIterator
  refine ac (fY g rfl (ac (wpAny_dictEpoch g rfl ?_)))
  show wpAny _ _ (newFields "dict_valueiterator" [.ref d,rawInt 0,rawInt es.toArray.size,rawInt ep]) _ _ s
  refine gy (al ⟨_,rfl,"dict_valueiterator",_,⟨_,dG _ rfl,rfl⟩,PySem.F.slot_dict_valueiterator_next.lookup,?_⟩)
  exact ⟨_,.vals a d es.length ep,rfl,b9.push F _ s.toks,aS _,⟨_,dG _ rfl,rfl,rfl⟩,⟨kvs,es,bU _ g,rfl,r.mono (fun _ f=>f) (fun a o _ e=>bU _ e),rfl⟩,
   fun b hb=>by rw [aV.mp hb];exact ⟨_,g⟩,fun z b hb=>by rw [aV.mp hb];exact z.dvF ga,fun _ e=>nomatch e⟩
 | rng n=>
  refine kk ?_
  obtain rfl:=az e
  obtain ⟨a,u,v',z,rfl,g,l⟩:=x.rng_inv
  refine wpAny_pyIter_range g (Bw l) ?_
  have hg:IsRangeIter (s.heap.push { cls:=.type "range_iterator",data:=.fields #[rawInt 0,rawInt (Builtin.Range.rangeSize 0 n 1),rawInt 1] }) s.heap.objs.size ((0:Nat):Int) ((n:Int) - (0:Nat)) 1:=by
   rw [rangeSize_one,Dp]
   exact dG _ rfl
  exact ⟨_,.rng n,rfl,b9.push F _ _,aS _,hg,rfl,(fun b hb=>nomatch hb),(fun _ b hb=>nomatch hb),(fun _ e=>nomatch e)⟩
 | _=>exact nn e
end
end
section
theorem mD {P:List Int→List Int→Prop} {a:Int} (h0:P [] [a]) (h1:∀ b r,a < b→P (b::r) (a::b::r)) (h2:∀ r,P (a::r) (a::r)) (h3:∀ b r,b < a→P r (ij a r)→P (b::r) (b::ij a r)) (l:List Int):P l (ij a l):=by
 induction l with
 | nil=>exact h0
 | cons b r ih=>
  show P _ (if a < b then a::b::r else if a=b then b::r else b::ij a r)
  refine iteInduction (fun e=>h1 b r e) fun e=>?_
  refine iteInduction (fun d=>d▸h2 r) fun d=>h3 b r (Int.lt_iff_le_and_ne.mpr ⟨Int.not_lt.mp e,Ne.symm d⟩) ih
theorem gK {a k:Int} {l:List Int}:k∈ij a l↔k=a∨k∈l:=
 mD (P:=fun l m=>k∈m↔k=a∨k∈l) aU (fun _ _ _=>aU) (fun r=>⟨.inr,fun h=>h.elim (fun e=>e▸.head r) id⟩)
  (fun b r _ ih=>by rw [aU,aU,ih];exact or_left_comm) l
theorem hQ {a:Int} {l:List Int} (h:l.Pairwise (· < ·)):(ij a l).Pairwise (· < ·):=
 mD (P:=fun l m=>l.Pairwise (· < ·)→(∀ x∈m,x=a∨x∈l)→m.Pairwise (· < ·)) (fun _ _=>List.pairwise_singleton _ _)
  (fun b r e h _=>List.pairwise_cons.mpr ⟨fun c hc=>(aU.mp hc).elim (fun d=>d▸e) fun d=>Int.lt_trans e (List.rel_of_pairwise_cons h d),h⟩) (fun _ h _=>h)
  (fun b r e ih h _=>List.pairwise_cons.mpr ⟨fun c hc=>(gK.mp hc).elim (fun d=>d▸e) fun d=>List.rel_of_pairwise_cons h d,ih h.of_cons fun x hx=>gK.mp hx⟩) l h fun x hx=>gK.mp hx
theorem aN {k:Int} {l:List Int}:k∈canon l↔k∈l:=by
 induction l with
 | nil=>exact Iff.rfl
 | cons a l ih=>exact gK.trans ((or_congr Iff.rfl ih).trans aU.symm)
theorem aJ (l:List Int):(canon l).Pairwise (· < ·):=by
 induction l with
 | nil=>exact .nil
 | cons a l ih=>exact hQ ih
theorem I6 {l:List Int} (h:l.Pairwise (· < ·)):l.Nodup:=h.imp fun h=>Int.ne_of_lt h
theorem bV {xs ys:List Int} (hx:xs.Pairwise (· < ·)) (hy:ys.Pairwise (· < ·)) (h:∀ k,k∈xs↔k∈ys):xs=ys:=
 ((List.perm_ext_iff_of_nodup (I6 hx) (I6 hy)).mpr h).eq_of_pairwise (fun _ _ _ _ p q=>absurd p (Int.lt_asymm q)) hx hy
theorem xD {a:Int} {l:List Int} (h:l.Pairwise (· < ·)) (m:a∈l):ij a l=l:=
 bV (hQ h) h fun k=>gK.trans ⟨fun x=>x.elim (fun e=>e▸m) id,.inr⟩
theorem um {a:Int} {l:List Int} (h:a∉l):(ij a l).Perm (a::l):=
 mD (P:=fun l m=>a∉l→m.Perm (a::l)) (fun _=>.refl _) (fun _ _ _ _=>.refl _) (fun r h=>absurd (.head r) h) (fun b r _ ih h=>((ih fun m=>h (.tail _ m)).cons b).trans (.swap ..)) l h
noncomputable def dC:List Int→List Int→List Int
 | [],l=>l
 | a::r,l=>dC r (ij a l)
theorem iQ {k:Int} {r l:List Int}:k∈dC r l↔k∈r∨k∈l:=by
 induction r generalizing l with
 | nil=>exact ⟨.inr,fun h=>h.resolve_left fun h=>nomatch h⟩
 | cons a r ih=>
  refine (ih (l:=ij a l)).trans ((or_congr Iff.rfl gK).trans ?_)
  rw [aU,or_assoc];exact or_left_comm
theorem dB {r l:List Int} (h:l.Pairwise (· < ·)):(dC r l).Pairwise (· < ·):=by
 induction r generalizing l with
 | nil=>exact h
 | cons a r ih=>exact ih (hQ h)
theorem o0 {a:Int} {l:List Int}:(ij a l).length≤l.length+1:=
 mD (P:=fun l m=>m.length≤l.length+1) (Nat.le_refl _) (fun _ _ _=>Nat.le_refl _) (fun _=>Nat.le_succ _) (fun _ _ _ ih=>gR ih) l
theorem kJ {r l:List Int}:(dC r l).length≤r.length+l.length:=by
 induction r generalizing l with
 | nil=>exact er (Nat.zero_add _).symm
 | cons a r ih=>exact aH (ih (l:=ij a l)) (aH (Nat.add_le_add_left o0 _) (er (Nat.succ_add_eq_add_succ r.length l.length).symm))
section
variable {W:Wd} {A:Around} {E:Value→Shared→Prop} {s:Shared}
theorem cS.perm' {es:Array (Int×Value)} {t t':SetTable} {xs:List Int} (x:cS W es t xs) (p:es'.toList.Perm es.toList) (ht:jI t' es'.size) (hl:t.led=true→t'.led=true):cS W es' t' xs:=
 ⟨fun e he=>x.els e (p.mem_iff.mp he),(p.map _).trans x.perm,ht,x.led.imp id hl,by
  have:=p.length_eq;rw [eX,eX] at this;rw [this];exact x.few⟩
theorem cS.push {es:Array (Int×Value)} {t t':SetTable} {xs:List Int} {k:Int} {u:Tok} (x:cS W es t xs) (hk:k∉xs) (p:es'.toList.Perm (es.toList++[(hashInt k,Value.int k u)])) (ht:jI t' es'.size) (hl:t'.led=t.led) (hf:es.size+1 < 4000) :
  cS W es' t' (ij k xs):=by
 refine ⟨fun e he=>?_,?_,ht,by rw [hl];exact x.led,?_⟩
 ·rcases cH.mp (p.mem_iff.mp he) with h | h
  ·exact x.els e h
  ·rw [aV] at h;exact ⟨k,u,h⟩
 ·refine (p.map _).trans ?_
  rw [dJ]
  exact ((List.perm_append_singleton _ _).trans (x.perm.cons k)).trans (um hk).symm
 ·have:=p.length_eq
  rw [bS,eX,eX] at this
  rw [this];exact hf
theorem bw {es:Array (Int×Value)} {ep:Nat} {t:SetTable} {xs:List Int} {Q:(Array (Int×Value)×Nat×SetTable)→Shared→Prop} (ho:s.heap.get? a=some (cN es ep t)) (d:cS W es t xs) (h:Q (es,ep,t) s) :
  wpAny (model W.prog W.w) A (setState a) Q E s:=wpAny_setState_of ho rfl d.tab.fits h
theorem jm {es:Array (Int×Value)} {ep:Nat} {t:SetTable} {xs:List Int} {Q:Nat→Shared→Prop} (ho:s.heap.get? a=some (cN es ep t)) (d:cS W es t xs) (h:Q ep s) :
  wpAny (model W.prog W.w) A (setEpoch a) Q E s:=wpAny_setEpoch_of ho rfl d.tab.fits h
theorem dp {es:Array (Int×Value)} {ep:Nat} {t t':SetTable} (ho:s.heap.get? a=some (cN es ep t)) (hz:es'.size < 4100)
  (h:∀ h',h'.get? a=some (cN es' (ep+1) t')→Heap.SameBut a s.heap h'→Q () { s with heap:=h' }) :
  wpAny (model W.prog W.w) A (storeSet a es' t') Q E s:=by
 refine wpAny_storeSet_of (es:=es) (ep:=ep) (t:=t) ho rfl (h _ ?_ (fZ ..)) ?_
 ·have:=Heap.get?_update_self (Obj.putSet es' t') ho rfl
  rw [putSet_of es' t' (o:=cN es ep t) rfl] at this;exact this
 ·rw [sizeLine_eq];lia
noncomputable def mv (W:Wd) (a:Addr) (xs:List Int) (s:Shared) (s':Shared):Prop:=
 (∃ es ep t,s'.heap.get? a=some (cN es ep t)∧cS W es t xs)∧Heap.SameBut a s.heap s'.heap∧s'.gens=s.gens∧s'.os=s.os
theorem vC {b:Bool} (q:Q () s):wpAny (model W.prog W.w) A (match b with | true=>rule "set.scan.the-table-gave-way" | false=>pure ()) Q E s:=by
 induction b<;>first | exact al q | exact wpAny_rule q
theorem lV {es:Array (Int×Value)} {ep:Nat} {t:SetTable} {xs:List Int} {k:Int} {u:Tok} {Q:Bool→Shared→Prop} (ho:s.heap.get? a=some (cN es ep t)) (d:cS W es t xs) (hx:xs.Pairwise (· < ·)) (hf:xs.length+1 < 4000)
  (h:∀ b s',mv W a (ij k xs) s s'→Q b s'):wpAny (model W.prog W.w) A (setAddHashed a (.int k u) (hashInt k)) Q E s:=by
 have hel:=d.elems
 have hsb:scanBound=4096:=rfl
 have hb:es.size < scanBound:=by have:=d.few;lia
 unfold setAddHashed setAddHashedIn
 refine b5 (ac (bw ho d ?_))
 dsimp only
 rw [byScan_of rfl hb hel]
 simp only [↓reduceIte]
 unfold setAddByScan
 refine ac ?_
 refine ac (wpAny_rule ?_)
 refine ac (wpAny_setScan_of (knd:=intKind W.prog W.w) (k:=k) (intKind_is _ _ k u) ho rfl d.tab.fits hel ?_)
 induction hr:List.findIdx? (fun e=>(intKind W.prog W.w).is k e.2) es.toList with
 | some j=>
  dsimp only
  obtain ⟨hj,hpj,_⟩:=List.findIdx?_eq_some_iff_getElem.mp hr
  have hm:k∈xs:=(d.key k).mpr ⟨es.toList[j],List.getElem_mem hj,hpj⟩
  refine al (al (h _ _ ⟨⟨es,ep,t,ho,by rw [xD hx hm];exact d⟩,Heap.SameBut.refl a s.heap,rfl,rfl⟩))
 | none=>
  dsimp only
  have hm:k∉xs:=fun hm=>by
   obtain ⟨e,he,hp⟩:=(d.key k).mp hm
   have:=List.findIdx?_eq_none_iff.mp hr e he
   rw [hp] at this;exact Bool.noConfusion this
  have hperm:=layNew_perm t es (hashInt k) (.int k u)
  obtain ⟨htab,hled,hwd⟩:=AG d.tab es rfl (hashInt k) (.int k u)
  generalize hL:layNew t es (hashInt k) (.int k u)=L at hperm htab hled hwd ⊢
  obtain ⟨es1,t1,wasDummy,gave⟩:=L
  dsimp only at hperm htab hled hwd ⊢
  subst hwd
  rw [Array.toList_push] at hperm
  have hl:=d.length
  have d1:cS W es1 t1 (ij k xs):=d.push hm hperm htab hled (by lia)
  have hs1:=d1.few
  refine ac (vC ?_)
  split
  ·refine ac ?_
   rw [hashByValue_scannable 8 (show (Value.int k u).scannable=true from rfl)]
   refine al ?_
   simp only [plainKind,↓reduceIte]
   refine ac (dp ho (by lia) fun h1 ho1 hb1=>?_)
   split
   ·have hp2:=relayAll_perm t1 es1 (SetTable.grown es1.size)
    obtain ⟨ht2,hl2⟩:=on (t:=t1) (es:=es1) (wanted:=SetTable.grown es1.size)
    generalize hR:relayAll t1 es1 (SetTable.grown es1.size)=R at hp2 ht2 hl2 ⊢
    obtain ⟨es2,t2,gave2⟩:=R
    dsimp only at hp2 ht2 hl2 ⊢
    have d2:cS W es2 t2 (ij k xs):=d1.perm' hp2 ht2 (fun e=>hl2.trans e)
    have hs2:=d2.few
    refine ac (vC ?_)
    refine ac (dp (s:={ s with heap:=h1 }) ho1 (by lia) fun h2 ho2 hb2=>?_)
    exact al (al (h _ _ ⟨⟨es2,_,t2,ho2,d2⟩,hb1.trans hb2,rfl,rfl⟩))
   ·exact al (al (h _ _ ⟨⟨es1,_,t1,ho1,d1⟩,hb1,rfl,rfl⟩))
  ·refine ac (al ?_)
   simp only [↓reduceIte]
   refine ac (dp ho (by lia) fun h1 ho1 hb1=>?_)
   split
   ·have hp2:=relayAll_perm t1 es1 (SetTable.grown es1.size)
    obtain ⟨ht2,hl2⟩:=on (t:=t1) (es:=es1) (wanted:=SetTable.grown es1.size)
    generalize hR:relayAll t1 es1 (SetTable.grown es1.size)=R at hp2 ht2 hl2 ⊢
    obtain ⟨es2,t2,gave2⟩:=R
    dsimp only at hp2 ht2 hl2 ⊢
    have d2:cS W es2 t2 (ij k xs):=d1.perm' hp2 ht2 (fun e=>hl2.trans e)
    have hs2:=d2.few
    refine ac (vC ?_)
    refine ac (dp (s:={ s with heap:=h1 }) ho1 (by lia) fun h2 ho2 hb2=>?_)
    exact al (al (h _ _ ⟨⟨es2,_,t2,ho2,d2⟩,hb1.trans hb2,rfl,rfl⟩))
   ·exact al (al (h _ _ ⟨⟨es1,_,t1,ho1,d1⟩,hb1,rfl,rfl⟩))
end
end
section
theorem Ks:∀ k:Fin 32,SetTable.bits (hashInt (k:Nat)) < 32:=by decide +kernel
theorem BW {k:Int} (h:0≤k∧k < 32):SetTable.bits (hashInt k) < 32:=by
 have:=Ks ⟨k.toNat,by lia⟩
 simp only [Int.toNat_of_nonneg h.1] at this
 exact this
theorem Ab:∀ w < 31,(SetTable.sizeAbove w - 1∈[7,15,31])∧w≤SetTable.sizeAbove w - 1∧SetTable.sizeAbove w≤1000:=by decide +kernel
theorem yG (es:Array α) (order:Array Nat) (h:order.toList.Perm (List.range es.size)):(order.filterMap (es[·]?)).toList.Perm es.toList:=by
 rw [Array.toList_filterMap]
 exact (h.filterMap _).trans (by rw [filterMap_getElem?_range])
theorem qP (l:List α):∀ (i:Nat) (h:i < l.length),(l[i]::l.eraseIdx i).Perm l:=by
 induction l with
 | nil=>intro i h;exact absurd h (Nat.not_lt_zero _)
 | cons x l ih=>
  intro i h
  induction i with
  | zero=>exact .refl _
  | succ i=>exact (List.Perm.swap ..).trans ((ih i (Nat.lt_of_succ_lt_succ h)).cons x)
set_option smartUnfolding false in
theorem AS (next:Nat→Nat) (fuel k:Nat) (left:List α) (out:Array α):pickOrder.go next (fuel+1) k left out=Option.rec (motive:=fun _=>Array α) out (fun x=>pickOrder.go next fuel (k+1) (left.eraseIdx (next k % left.length)) (out.push x)) left[next k % left.length]?:=rfl
theorem GQ (next:Nat→Nat) (fuel:Nat):∀ k (left:List α) (out:Array α),left.length≤fuel→(pickOrder.go next fuel k left out).toList.Perm (out.toList++left):=by
 induction fuel with
 | zero=>intro k left out h;rw [eC (Nat.le_antisymm h (ck _)),cr];exact .refl _
 | succ fuel ih=>
  intro k left out h
  rw [AS]
  induction left with
  | nil=>exact .of_eq (cr _).symm
  | cons y l=>
   have hi:next k % (y::l).length < (y::l).length:=Nat.mod_lt _ (Nat.zero_lt_succ _)
   rw [cj hi]
   refine (ih (k+1) _ _ (by rw [List.length_eraseIdx_of_lt hi];exact Nat.le_of_succ_le_succ h)).trans ?_
   rw [Array.toList_push,List.append_assoc]
   exact (qP _ _ hi).append_left _
theorem tG (next:Nat→Nat) (xs:Array α):(pickOrder next xs).toList.Perm xs.toList:=by
 unfold pickOrder
 exact (GQ next xs.size 0 xs.toList #[] (by simp)).trans (by simp)
theorem Cw {M:Model} {E:Value→Shared→Prop} {src:Source} {Q:Nat→Shared→Prop} (hn:n≠0) (h:∀ i,i < n→∀ d,Q i { s with drawn:=d }):wpAny M A (choose src n) Q E s:=by
 intro Γ p hΓ
 rw [choose,Sem.wp_choose]
 exact ⟨hn,h _ (Nat.mod_lt _ (by lia)) _⟩
theorem Gl {M:Model} {E:Value→Shared→Prop} (n:Nat):∀ (xs:List α) (s:Shared) (Q:List α→Shared→Prop),xs.length=n→(∀ l d,l.Perm xs→Q l { s with drawn:=d })→wpAny M A (drawOrder n xs) Q E s:=by
 induction n with
 | zero=>intro xs s Q hn h;cases eC hn;exact al (h [] s.drawn (.refl _))
 | succ n ih=>
  intro xs s Q hn h
  induction xs with
  | nil=>exact absurd hn (Nat.succ_ne_zero n).symm
  | cons x xs=>
   refine ac (Cw (Nat.succ_ne_zero _) fun i hi d=>?_)
   rw [cj hi]
   refine ac (ih _ _ _ (by rw [List.length_eraseIdx_of_lt hi,hn];rfl) fun l d' hl=>al (h _ d' ?_))
   exact (hl.cons _).trans (qP _ i hi)
section
variable {W:Wd} {A:Around} {E:Value→Shared→Prop} {s:Shared} {a o:Addr} {es eo:Array (Int×Value)} {ep epo:Nat} {t to:SetTable} {xs ys:List Int}
inductive MZ (W:Wd) (eo:Array (Int×Value)) (xs:List Int) (m finger moves:Nat) (led plain:Bool):Prop
 | mk (t':SetTable) (order:Array Nat) (e:SetTable.laid m finger moves led plain (eo.map (·.1))=some (t',order)) (hp:(order.filterMap (eo[·]?)).toList.Perm eo.toList) (hz:(order.filterMap (eo[·]?)).size=eo.size)
  (tab:jI t' (order.filterMap (eo[·]?)).size) (hl:t'.led=led) (hm:t'.mask=m)
theorem GR {t:SetTable} (h1:t.dummies=#[]) (h2:t.place.size=n) (h3:n≤t.mask):t.fits n=true:=by
 unfold SetTable.fits SetTable.fill;rw [h1,h2];simp;lia
theorem relaid {m finger moves:Nat} {led plain:Bool} (hd:cS W eo to xs) (hs:∀ k∈xs,0≤k∧k < 32) (hm:m∈[7,15,31]) (hle:xs.length≤m):MZ W eo xs m finger moves led plain:=by
 have hsz:=hd.length
 obtain ⟨t',order,hlaid,hp⟩:=BN (m:=m) (finger:=finger) (moves:=moves) (led:=led) (plain:=plain) (hashes:=eo.map (·.1)) hm
  (fun x hx=>by
   rw [Array.toList_map,bo] at hx
   obtain ⟨e,he,rfl⟩:=hx
   obtain ⟨k,u,rfl⟩:=hd.els e he
   exact BW (hs k ((hd.key k).mpr ⟨_,he,intKind_is _ _ k u⟩))) (by rw [Array.size_map,hsz];exact hle)
 rw [Array.size_map] at hp
 obtain ⟨l1,l2,l3,l4,l5,l6⟩:=As hlaid
 have hpe:=yG eo order hp
 have hse:(order.filterMap (eo[·]?)).size=eo.size:=by rw [← eX,hpe.length_eq,eX]
 have hso:order.size=eo.size:=by rw [← eX,hp.length_eq,ei]
 exact ⟨t',order,hlaid,hpe,hse,⟨GR l1 ((l5.trans hso).trans hse.symm) (by rw [l6,hse,hsz];exact hle),l1,l2⟩,l3,l6⟩
theorem ve {m:Nat} (h:n=m):¬ (n != m)=true:=by rw [h,bne_self_eq_false];exact bO
theorem M8 {w z:Nat} (h:n≤w) (h2:w < 31) (h3:z≤1000):n < 4100:=by lia
theorem xC {wanted:Nat} (ho:s.heap.get? a=some (cN es ep t)) (d:cS W es t xs) (hs:∀ k∈xs,0≤k∧k < 32) (hw:wanted < 31) (hl:xs.length≤wanted)
  (h:∀ s' es' t',s'.heap.get? a=some (cN es' (ep+1) t')→cS W es' t' xs→t'.mask=SetTable.sizeAbove wanted - 1→Heap.SameBut a s.heap s'.heap→s'.gens=s.gens→s'.os=s.os→Q () s'):wpAny (model W.prog W.w) A (setRelay a wanted) Q E s:=by
 obtain ⟨hm,hge,hz⟩:=Ab wanted hw
 unfold setRelay
 refine ac (bw ho d ?_)
 dsimp only
 have hsz:=d.length
 refine bD (by rw [sizeLine_eq];lia) ?_
 obtain ⟨t',order,hlaid,hpe,hse,htab,l3,l6⟩:=relaid (m:=SetTable.sizeAbove wanted - 1) (finger:=t.finger) (moves:=t.movedTo (SetTable.sizeAbove wanted - 1)) (led:=t.led) (plain:=t.plain) d hs hm (aH hl hge)
 unfold SetTable.relaid
 rw [hlaid]
 refine ac ?_
 show wpAny _ _ (if (order.filterMap (es[·]?)).size != es.size then unsupported "internal:set-table-lost-an-element" >>= fun _=>pure (order.filterMap (es[·]?),t') else pure (order.filterMap (es[·]?),t')) _ _ s
 refine bD (ve hse) (al ?_)
 have d':cS W (order.filterMap (es[·]?)) t' xs:=d.perm' hpe htab fun e=>l3.trans e
 exact dp ho (Nat.lt_trans d'.few (by decide)) fun h' hg hb=>h _ _ _ hg d' l6 hb rfl rfl
theorem Hy {more:Nat} (ho:s.heap.get? a=some (cN es ep t)) (d:cS W es t xs) (hs:∀ k∈xs,0≤k∧k < 32) (hw:xs.length+more≤15) (h7:xs=[]→t.mask=7)
  (h:∀ s' es' ep' t',s'.heap.get? a=some (cN es' ep' t')→cS W es' t' xs→(xs=[]→t'.mask∈[7,15,31]∧more≤t'.mask)→Heap.SameBut a s.heap s'.heap→s'.gens=s.gens→s'.os=s.os→Q () s'):wpAny (model W.prog W.w) A (setRoomFor a more) Q E s:=by
 unfold setRoomFor
 refine ac (bw ho d ?_)
 dsimp only
 have hsz:=d.length
 have hps:=d.tab.size
 have hfill:t.fill=xs.length:=by unfold SetTable.fill;rw [d.tab.dum,hps,hsz];simp
 unfold SetTable.roomFor
 by_cases hc:(t.fill+more)*5 ≥ t.mask*3
 ·rw [au hc,hps,hsz]
  obtain ⟨hm,hge,_⟩:=Ab ((xs.length+more)*2) (by lia)
  exact xC ho d hs (by lia) (by lia) fun s' es' t' g d' hmk hb e1 e2=>h s' es' _ t' g d' (fun _=>by rw [hmk];exact ⟨hm,by lia⟩) hb e1 e2
 ·rw [av hc]
  refine al (h s es ep t ho d (fun e=>?_) (Heap.SameBut.refl a s.heap) rfl rfl)
  have:=h7 e
  rw [this] at hc ⊢
  exact ⟨by simp,by lia⟩
theorem oL {M:Model} {β:Type} {f:α→β→Sem (ForInStep β)} (r:β) (P:α→Prop) (step:∀ x,P x→∀ Q:ForInStep β→Shared→Prop,Q (.yield r) s→wpAny M A (f x r) Q E s) (l:List α) (hP:∀ x∈l,P x) {Q:β→Shared→Prop} (q:Q r s):wpAny M A (forIn l r f) Q E s:=by
 induction l with
 | nil=>exact al q
 | cons x l ih=>
  rw [List.forIn_cons]
  exact ac (step x (hP x (.head _)) _ (ih fun y hy=>hP y (.tail _ hy)))
theorem FZ {Q:Bool→Shared→Prop} (hso:s.heap.get? o=some (cN eo epo to)) (d':cS W eo to ys) (ho:s.heap.get? a=some (cN es ep t)) (d:cS W es t xs) (q:Q true s):wpAny (model W.prog W.w) A (setsQuiet [o,a]) Q E s:=by
 unfold setsQuiet
 refine ac (oL _ (fun b=>∃ es ep t xs,s.heap.get? b=some (cN es ep t)∧cS W es t xs) (fun b hb Q q=>?_) _ (fun b hb=>?_) (al q))
 ·obtain ⟨es,ep,t,xs,g,d⟩:=hb
  refine ac ?_
  unfold setEntries
  refine ac (bw g d (al (ac ?_)))
  rw [← Array.forIn_toList]
  exact oL _ (fun e=>∃ k u,e=(hashInt k,Value.int k u)) (fun e he Q q=>by obtain ⟨k,u,rfl⟩:=he;exact al q) _ d.els (al q)
 ·rcases aU.mp hb with rfl | hb
  ·exact ⟨_,_,_,_,hso,d'⟩
  ·rw [aV.mp hb];exact ⟨_,_,_,_,ho,d⟩
theorem sJ {Q:Array (Int×Value)→Shared→Prop} (hao:a≠o) (hso:s.heap.get? o=some (cN eo epo to)) (d':cS W eo to ys) (ho:s.heap.get? a=some (cN es ep t)) (d:cS W es t xs)
  (h:∀ l s',l.toList.Perm eo.toList→(∃ ep' t',s'.heap.get? a=some (cN es ep' t')∧cS W es t' xs)→Heap.SameBut a s.heap s'.heap→s'.gens=s.gens→s'.os=s.os→Q l s'):wpAny (model W.prog W.w) A (setWalkUnseen o [a] (some a)) Q E s:=by
 unfold setWalkUnseen
 refine ac (bw hso d' ?_)
 unfold setsByText
 refine ac (ac (wpAny_askSetting (al ?_)))
 dsimp only
 have walk:(model W.prog W.w).w.params.followText "set-order"=true∨(to.led&&to.plain)=true∨eo.size≤1→wpAny (model W.prog W.w) A (setWalk o) Q E s:=by
  intro hc
  unfold setWalk
  refine ac (bw hso d' ?_)
  unfold setsByText
  refine ac (ac (wpAny_askSetting (al ?_)))
  dsimp only
  by_cases hb:(model W.prog W.w).w.params.followText "set-order"=true
  ·rw [au hb]
   refine ac (wpAny_askSetting (al ?_))
   exact h _ s (tG _ _) ⟨ep,t,ho,d⟩ (Heap.SameBut.refl a s.heap) rfl rfl
  ·rw [av hb]
   show wpAny _ _ (if (!to.plain&&decide (eo.size > 1))=true then _ else _) _ _ s
   rw [av (by
    rcases hc with hc | hc | hc
    ·exact absurd hc hb
    ·rw [bC] at hc;rw [hc.2];simp
    ·rw [bC,decide_eq_true_eq];lia)]
   refine ac (ax (Q:=fun _ s'=>s'=s) (E:=E) ?_ (fun _ s' (e:s'=s)=>?_) am)
   ·show wpAny _ _ (if (!to.led&&decide (eo.size > 1))=true then unsupported "set:maker-not-led" else pure ()) _ _ s
    rw [av (by
     rcases d'.led with hl | hl
     ·exact absurd hl hb
     ·rw [hl];simp)]
    exact al rfl
   ·rw [e]
    exact al (h _ s (.refl _) ⟨ep,t,ho,d⟩ (Heap.SameBut.refl a s.heap) rfl rfl)
 by_cases hc:((model W.prog W.w).w.params.followText "set-order"||to.led&&to.plain||decide (eo.size≤1))=true
 ·rw [au hc]
  refine walk ?_
  rw [Bool.or_eq_true,Bool.or_eq_true,decide_eq_true_eq,or_assoc] at hc
  exact hc
 ·rw [av hc]
  refine ac (FZ hso d' ho d ?_)
  rw [av (by simp)]
  refine ac (wpAny_rule ?_)
  refine ac (bw ho d ?_)
  dsimp only
  have hb:¬ W.w.params.followText "set-order"=true:=fun e=>hc (by rw [show (model W.prog W.w).w.params.followText "set-order"=true from e];rfl)
  have hl1:=d.led.resolve_left hb
  have hl2:=d'.led.resolve_left hb
  split
  ·have:=d.few
   refine ac (dp ho (by lia) fun h' hg hb'=>?_)
   refine al (h _ _ (.refl _) ⟨_,_,hg,d.perm' (.refl _) ⟨d.tab.fits,d.tab.dum,d.tab.rise⟩ fun _=>?_⟩ hb' rfl rfl)
   rw [hl1,hl2];rfl
  ·exact ac (al (al (h _ _ (.refl _) ⟨ep,t,ho,d⟩ (Heap.SameBut.refl a s.heap) rfl rfl)))
theorem BA (xs ys zs:List Int) (hx:xs.Pairwise (· < ·)) (hp:zs.Perm ys):dC zs xs=canon (xs++ys):=
 bV (dB hx) (aJ _) fun k=>by rw [iQ,aN,cH,hp.mem_iff];exact Or.comm
theorem nI (ys:List Int) (hy:ys.Pairwise (· < ·)):canon ([]++ys)=ys:=
 bV (aJ _) hy fun k=>by rw [aN,List.nil_append]
theorem xG (xs:List Int) (hx:xs.Pairwise (· < ·)):canon (xs++[])=xs:=
 bV (aJ _) hx fun k=>by rw [aN,cr]
theorem xK {k:Int} {l xs:List Int}:dC (l++[k]) xs=ij k (dC l xs):=by
 induction l generalizing xs with
 | nil=>rfl
 | cons b l ih=>exact ih
inductive Qu (W:Wd) (a:Addr) (xs:List Int) (s:Shared) (l rest:List (Int×Value)) (r:PUnit) (s':Shared):Prop
 | mk (done:List (Int×Value)) (e:l=done++rest) (z:mv W a (dC (done.map uN) xs) s s')
theorem Lb {done rest l:List (Int×Value)} {x:Int×Value} {xs:List Int} (e:l=done++x::rest) (hl:l.length=n) (h:xs.length+n≤15):(dC (done.map uN) xs).length+1 < 4000:=by
 have:=kJ (r:=done.map uN) (l:=xs)
 rw [ba] at this
 rw [e,bS,eF] at hl
 clear e
 lia
theorem EG {P:SetTable.Road→Prop} {t to:SetTable} {xs:List Int} (hf:t.fill=xs.length) (p1:xs=[]→P .slotForSlot) (p2:xs=[]→P .clean) (p3:P .oneByOne):P (t.road to):=by
 unfold SetTable.road
 refine iteInduction (fun _=>p3) fun hz=>?_
 have e:xs=[]:=eC (by rw [← hf];simpa using hz)
 exact iteInduction (fun _=>p1 e) fun _=>p2 e
theorem xq {each:Sem Unit} (hao:a≠o) (hso:s.heap.get? o=some (cN eo epo to)) (d':cS W eo to ys) (hy:ys.Pairwise (· < ·)) (ho:s.heap.get? a=some (cN es ep t)) (d:cS W es t xs) (hx:xs.Pairwise (· < ·))
  (hs:∀ k∈xs,0≤k∧k < 32) (hs':∀ k∈ys,0≤k∧k < 32) (hl:xs.length+ys.length≤15) (h7:xs=[]→t.mask=7)
  (heach:∀ (s':Shared) (Q:Unit→Shared→Prop),s'.heap.get? o=some (cN eo epo to)→Q () s'→wpAny (model W.prog W.w) A each Q E s')
  (h:∀ s',mv W a (canon (xs++ys)) s s'→(ys=[]→s'=s)→Q () s'):wpAny (model W.prog W.w) A (setMerge a o each) Q E s:=by
 have hsz':=d'.length
 unfold setMerge
 refine bD (by simpa using hao) ?_
 refine ac (bw hso d' ?_)
 dsimp only
 by_cases hemp:eo.isEmpty=true
 ·refine lm hemp ?_
  have:ys=[]:=eC (by rw [← hsz'];simpa using hemp)
  subst this
  exact al (h s ⟨⟨es,ep,t,ho,by rw [xG xs hx];exact d⟩,Heap.SameBut.refl a s.heap,rfl,rfl⟩ fun _=>rfl)
 ·refine bD hemp ?_
  have hne:ys=[]→∀ s':Shared,s'=s:=fun e=>absurd (by rw [e] at hsz';simpa using hsz') hemp
  refine ac (Hy (more:=eo.size) ho d hs (by lia) h7 fun s1 es1 ep1 t1 ho1 d1 hm1 hb1 hg1 hos1=>?_)
  have hso1:s1.heap.get? o=some (cN eo epo to):=(hb1.2 o (fun e=>hao e.symm)).trans hso
  refine ac (bw ho1 d1 ?_)
  dsimp only
  have hf1:t1.fill=xs.length:=by unfold SetTable.fill;rw [d1.tab.dum,d1.tab.size,d1.length];simp
  have hled:W.w.params.followText "set-order"=true∨(t1.led&&to.led)=true:=by
   rcases d1.led with e | e
   ·exact .inl e
   ·rcases d'.led with e' | e'
    ·exact .inl e'
    ·exact .inr (by rw [e,e'];rfl)
  have few':=d'.few
  refine EG (P:=fun r=>wpAny (model W.prog W.w) A (match r with | .slotForSlot=>_ | .clean=>_ | .oneByOne=>_) Q E s1) hf1 (fun e=>?_) (fun e=>?_) ?_
  ·subst e
   refine dp ho1 (by lia) fun h' hg hb=>h _ ⟨⟨eo,_,_,hg,?_⟩,hb1.trans hb,hg1,hos1⟩ fun e=>hne e _
   rw [nI ys hy]
   exact ⟨d'.els,d'.perm,⟨d'.tab.fits,d'.tab.dum,d'.tab.rise⟩,hled,d'.few⟩
  ·subst e
   obtain ⟨hm,hle⟩:=hm1 rfl
   obtain ⟨t',order,hlaid,hpe,hse,htab,hl',_⟩:=relaid (m:=t1.mask) (finger:=t1.finger) (moves:=t1.moves) (led:=t1.led&&to.led) (plain:=t1.plain&&to.plain) d' hs' hm (by rw [← hsz'];exact hle)
   dsimp only
   rw [hlaid]
   refine ac ?_
   show wpAny _ _ (if (order.filterMap (eo[·]?)).size != eo.size then unsupported "internal:set-table-lost-an-element" >>= fun _=>pure (order.filterMap (eo[·]?),t') else pure (order.filterMap (eo[·]?),t')) _ _ s1
   refine bD (ve hse) (al ?_)
   dsimp only
   refine dp ho1 (by lia) fun h' hg hb=>h _ ⟨⟨_,_,_,hg,?_⟩,hb1.trans hb,hg1,hos1⟩ fun e=>hne e _
   rw [nI ys hy]
   refine ⟨fun e he=>d'.els e (hpe.mem_iff.mp he),(hpe.map _).trans d'.perm,htab,by rw [hl'];exact hled,by rw [hse];exact d'.few⟩
  ·dsimp only
   refine ac (sJ hao hso1 d' ho1 d1 fun l s2 hp ⟨ep2,t2,ho2,d2⟩ hb2 hg2 hos2=>?_)
   rw [← Array.forIn_toList]
   have hso2:s2.heap.get? o=some (cN eo epo to):=(hb2.2 o (fun e=>hao e.symm)).trans hso1
   refine ac (wpAny_forIn_list _ (Qu W a xs s l.toList) _ ?_ ?_ _ _ ⟨[],rfl,⟨⟨es1,ep2,t2,ho2,(show cS W es1 t2 (dC (([]:List (Int×Value)).map uN) xs) from d2)⟩,hb1.trans hb2,hg2.trans hg1,hos2.trans hos1⟩⟩)
   ·rintro ⟨hh,x⟩ rest r s' ⟨done,e,⟨es',ep',t',g',dd⟩,b',gg,oo⟩
    obtain ⟨k,u,hk⟩:=d'.els (hh,x) (hp.mem_iff.mp (by rw [e];exact dq _ (.head _)))
    cases hk
    dsimp only
    refine ac (b5 (lV g' dd (dB hx) (Lb e (hp.length_eq.trans (eX.trans hsz')) hl) fun b s3 z3=>?_))
    obtain ⟨e3,b3,g3,o3⟩:=z3
    have hso3:s3.heap.get? o=some (cN eo epo to):=by
     exact (b3.2 o (Ne.symm hao)).trans ((b'.2 o (Ne.symm hao)).trans hso)
    refine ac (heach _ _ hso3 ?_)
    refine ac (bw hso3 d' ?_)
    dsimp only
    refine bD (ve rfl) ?_
    refine al ⟨done++[(hashInt k,Value.int k u)],by rw [e,List.append_assoc];rfl,⟨?_,b'.trans b3,g3.trans gg,o3.trans oo⟩⟩
    rw [dJ]
    show ∃ es ep t,_∧cS W es t (dC (done.map uN++[k]) xs)
    rw [xK];exact e3
   ·rintro r s' ⟨done,e,z⟩
    rw [cr] at e
    refine al (h s' ?_ fun e=>hne e _)
    rw [BA xs ys (done.map uN) hx (by rw [← e];exact (hp.map _).trans d'.perm)] at z
    exact z
end
end
section
theorem vG:entryFor table "set.__or__"=some Builtin.«frozenset.__or__»:=
 entryFor_alias (id':="frozenset.__or__") (by kernel_rfl) rfl (by decide +kernel) (by kernel_rfl)
section
variable {W:Wd} {F:Addr→Prop} {s:Shared} {A:Around} {E:Value→Shared→Prop}
theorem mv.trans {xs ys:List Int} {s₁ s₂ s'3:Shared} (x:mv W a xs s₁ s₂) (y:mv W a ys s₂ s'3):mv W a ys s₁ s'3:=
 ⟨y.1,x.2.1.trans y.2.1,y.2.2.1.trans x.2.2.1,y.2.2.2.trans x.2.2.2⟩
theorem Ct {Q:Value→Shared→Prop} (h:∀ t,cS W #[] t []→t.mask=7→Q (.ref s.heap.objs.size) { s with heap:=s.heap.push (cN #[] 0 t) }):wpAny (model W.prog W.w) A (newSet (.type "set")) Q E s:=by
 unfold newSet setsByText
 refine ac (ac (wpAny_askSetting (al ?_)))
 dsimp only
 simp only [newObj]
 refine ac (wpAny_alloc (al (h _ ⟨fun e he=>by simp at he,.refl _,⟨rfl,rfl,List.Pairwise.nil⟩,?_,by decide⟩ rfl)))
 show _∨(!(model W.prog W.w).w.params.followText "set-order")=true
 show W.w.params.followText "set-order"=true∨(!W.w.params.followText "set-order")=true
 cases W.w.params.followText "set-order"<;>simp
theorem uJ:isSubtype (.type "set") (.type "set")=pure true:=by rw [isSubtype_type];kernel_rfl
theorem mZ {o:Obj} {Q:Bool→Shared→Prop} (ho:s.heap.get? a=some o) (hc:o.cls=.type "set") (q:Q true s):wpAny (model W.prog W.w) A (Builtin.Frozenset.isAnySet (.ref a)) Q E s:=by
 unfold Builtin.Frozenset.isAnySet
 refine ac (wpAny_isInstance (T:="set") (b:=true) ⟨o,ho,hc⟩ uJ ?_)
 exact al q
theorem OX {xs:List Int} (n:s.heap.get? a=none) (x:mv W a xs s s') (hx:xs.Pairwise (· < ·)) (l:xs.length≤SZ):fG W F s (.set xs) (.ref a) s':=by
 obtain ⟨⟨es,ep,t,g,d⟩,b,e1,e2⟩:=x
 have k:∀ b' o,s.heap.get? b'=some o→s'.heap.get? b'=some o:=fun b' o e=>(b.2 b' (fun q=>by rw [q,n] at e;exact nomatch e)).trans e
 exact ⟨fun c=>F c∨c∈[a],b9.add (as:=[a]) ⟨e1,e2,k,fun _ f=>f,fun _=>.inl⟩ (fun c hc=>by rw [aV.mp hc];exact n) (fun c hc=>by rw [aV.mp hc];exact ⟨_,g⟩),.set (.inr (aV.mpr rfl)) l ⟨es,ep,t,g,d,hx⟩⟩
theorem bL:∀ (l:List Int),(canon l).length≤l.length
 | []=>by simp [canon]
 | a::l=>by unfold canon;have:=o0 (a:=a) (l:=canon l);have:=bL l;rw [eF];lia
theorem GH {xs ys:List Int} (x:VR W F s.heap (.set xs) va) (y:VR W F s.heap (.set ys) vb) (l:HW xs ys=true):wpAny (model W.prog W.w) A (binaryOp .BitOr va vb) (fG W F s (.set (canon (xs++ys)))) E s:=by
 obtain ⟨a,rfl,_,es,ep,t,ga,d,hx⟩:=x.q.set_inv
 obtain ⟨b,rfl,_,eo,epo,to,gb,d',hy⟩:=y.q.set_inv
 unfold HW at l
 rw [bC,bC,decide_eq_true_eq,aY,aY] at l
 obtain ⟨⟨l,l1⟩,l2⟩:=l
 have hs:∀ k∈xs,0≤k∧k < 32:=fun k hk=>bH (l1 k hk)
 have hs':∀ k∈ys,0≤k∧k < 32:=fun k hk=>bH (l2 k hk)
 have ta:s.TypeIs (.ref a) "set":=⟨_,ga,rfl⟩
 have tb':s.TypeIs (.ref b) "set":=⟨_,gb,rfl⟩
 have hlen:(canon (xs++ys)).length≤SZ:=by
  have:=bL (xs++ys);rw [bS] at this;have:SZ=1048576:=rfl;lia
 refine wpAny_binaryOp_same ta tb' PySem.F.fills_set_or PySem.F.slot_set_or (eR PySem.F.slot_set_or ta vG ?_ (PySem.F.args_set_or_2 _ _))
 show wpAny _ _ (do
  let (self,other) ← Builtin.Frozenset.slot1 "__or__" ⟨[.ref a,.ref b],[]⟩
  let (l,r):=if false then (other,self) else (self,other)
  if !(← Builtin.Frozenset.isAnySet l <&&> Builtin.Frozenset.isAnySet r) then rule s!"frozenset.__or__.declined";return ← ret .notImplemented
  ret (← (do
   let result ← Builtin.Frozenset.copyOf (← Builtin.Frozenset.addrOf l)
   if r != .ref (← Builtin.Frozenset.addrOf l) then holding [result] (Builtin.Frozenset.updateFrom s!"frozenset.__or__" (← Builtin.Frozenset.addrOf result) r)
   return result))) _ _ s
 refine ac (ac (al (al ?_)))
 dsimp only
 refine ac (ac (mZ ga rfl ?_))
 refine mZ gb rfl ?_
 rw [av (by simp)]
 refine ac ?_
 refine ac (al ?_)
 refine ac ?_
 unfold Builtin.Frozenset.copyOf
 have size_ne:∀ {c:Addr} {o:Obj},s.heap.get? c=some o→s.heap.objs.size≠c:=fun e q=>Nat.lt_irrefl _ (q▸ef e)
 refine ac ?_
 unfold Builtin.Frozenset.baseOf
 refine ac (wpAny_isInstance (T:="set") (b:=true) ta uJ (al ?_))
 simp only [↓reduceIte]
 refine ac (Ct fun t0 d0 hm0=>?_)
 refine ac (al ?_)
 have gr:(s.heap.push (cN #[] 0 t0)).get? s.heap.objs.size=some (cN #[] 0 t0):=dG _ rfl
 refine ac (xq (s:={ s with heap:=s.heap.push (cN #[] 0 t0) }) (size_ne ga) (bU _ ga) d hx gr d0 List.Pairwise.nil (fun k hk=>nomatch hk) hs (by rw [List.length_nil];lia) (fun _=>hm0)
  (fun s' Q _ q=>al q) fun s1 z1 hz1=>?_)
 rw [nI xs hx] at z1
 have k1:∀ c o,s.heap.get? c=some o→s1.heap.get? c=some o:=fun c o e=>(z1.2.1.2 c (fun q=>size_ne e q.symm)).trans (bU _ e)
 have z1':∀ {zs s2},mv W s.heap.objs.size zs s1 s2→zs.Pairwise (· < ·)→zs.length≤SZ→fG W F s (.set zs) (.ref s.heap.objs.size) s2:=by
  intro zs s2 z hz hzl
  obtain ⟨⟨es,ep,t,g,d⟩,b,e1,e2⟩:=z
  have k:∀ b' o,s.heap.get? b'=some o→s2.heap.get? b'=some o:=fun b' o e=>(b.2 b' (fun q=>size_ne e q.symm)).trans (k1 _ _ e)
  have e3:=z1.2.2.1
  have e4:=z1.2.2.2
  exact ⟨fun c=>F c∨c∈[s.heap.objs.size],b9.add (as:=[s.heap.objs.size]) ⟨e1.trans e3,e2.trans e4,k,fun _ f=>f,fun _=>.inl⟩ (fun c hc=>by rw [aV.mp hc];exact aS _) (fun c hc=>by rw [aV.mp hc];exact ⟨_,g⟩),.set (.inr (aV.mpr rfl)) hzl ⟨es,ep,t,g,d,hz⟩⟩
 refine al (ac (al ?_))
 by_cases hab:b=a
 ·subst hab
  have hxy:xs=ys:=by
   rw [ga] at gb
   cases gb
   exact bV hx hy fun k=>(d.key k).trans (d'.key k).symm
  subst hxy
  rw [av (by simp)]
  refine al (al ⟨_,rfl,by simp,?_⟩)
  have e5:canon (xs++xs)=xs:=bV (aJ _) hx fun k=>by rw [aN,cH,or_self]
  rw [e5]
  exact z1' ⟨z1.1,Heap.SameBut.refl _ _,rfl,rfl⟩ hx (by have:SZ=1048576:=rfl;lia)
 ·rw [au (by simpa using hab)]
  refine ac (al ?_)
  obtain ⟨es1,ep1,t1,g1,d1⟩:=z1.1
  refine ac (b5 ?_)
  unfold Builtin.Frozenset.updateFrom
  have gb1:=k1 _ _ gb
  refine ac (mZ gb1 rfl ?_)
  simp only [↓reduceIte]
  refine ac (al ?_)
  unfold Builtin.Frozenset.merge
  refine ac (jm gb1 d' ?_)
  refine xq (size_ne gb) gb1 d' hy g1 d1 hx hs hs' l (fun e=>?_) (fun s' Q hg q=>?_) fun s2 z2 _=>?_
  ·have:=hz1 e
   subst this
   rw [gr] at g1
   cases g1
   exact hm0
  ·unfold Builtin.Frozenset.unchanged
   refine ac (jm hg d' ?_)
   rw [av (by simp)]
   exact al q
  ·refine al (al ⟨_,rfl,by simp,z1' z2 (aJ _) hlen⟩)
end
end
section
theorem sub_succ {k:Nat} (h:n - i=k+1):n - (i+1)=k:=by rw [Nat.sub_succ,h];rfl
theorem yv {l:List Int} (e:cZ xs=some l) (i:Nat):xs[i]? = (l[i]?).map .int:=by rw [ew e,dO]
theorem fA {l:List Int} (e:cZ xs=some l):l.length=xs.length:=by rw [ew e,ba]
section
variable {W:Wd} {F:Addr→Prop} {s:Shared} {A:Around} {E:Value→Shared→Prop}
theorem HC {h:Heap} (e:cZ xs=some ks) (r:bR W F h xs vs):bR W (fun _=>False) h xs vs:=by
 have:=we e r
 rw [ew e];exact wc this
noncomputable def ez (W:Wd):SetTable:=.fresh 0 0 (!W.w.params.followText "set-order")
theorem EM (W:Wd):cS W #[] (ez W) []:=by
 refine ⟨fun e he=>by simp at he,.refl _,⟨rfl,rfl,List.Pairwise.nil⟩,?_,by decide⟩
 show _∨(!W.w.params.followText "set-order")=true
 cases W.w.params.followText "set-order"<;>simp
theorem vT (a:Value) {Q₁:Value→Shared→Prop} (h:Q₁ (.ref s.heap.objs.size) { s with heap:=s.heap.push (cN #[] 0 (ez W)) }) :
  codeAny (model W.prog W.w) A (.call (.builtin "set.__new__") ⟨[.type "set",a],[]⟩) (wants Q₁ E) s:=by
 refine codeAny_of_tree ?_
 show wpAny _ A.in1 (do checkBuiltinCall "set.__new__" ⟨[.type "set",a],[]⟩;again (.builtin "set.__new__" ⟨[.type "set",a],[]⟩)) _ _ s
 refine ac (wpAny_of_eq (PySem.F.newCall_set_1 a) (al ⟨plainId_quiet PySem.F.plain_set_new _,codeAny_builtin PySem.F.entry_set_new ?_⟩))
 rw [Around.under_plainId PySem.F.plain_set_new _]
 unfold Builtin.«set.__new__» Builtin.Frozenset.newClass
 have hsub:=PySem.sub_set_self
 obtain ⟨hp,g,d,tk,os⟩:=s
 dsimp only
 wp_walk
 refine wpAny_askSetting (al ?_)
 dsimp only
 simp only [newObj]
 refine ac (wpAny_alloc (al ?_))
 exact al h
theorem Dr {R:Result→Shared→Prop} {D I l:Addr} (hA:A.handled=none) (hg:s.heap.get? l=some (seqObj "list" vs.toArray n)) (rv:bR W (fun _=>False) s.heap xs vs)
  (hks:cZ xs=some ks) (hlen:ks.length≤1000) (hI:s.heap.get? I=none) (hD:s.heap.get? D=none) (hID:I≠D)
  (fin:∀ s',(∀ b o,s.heap.get? b=some o→s'.heap.get? b=some o)→s'.gens=s.gens→s'.os=s.os→(∃ es ep t,s'.heap.get? D=some (cN es ep t)∧cS W es t (dC ks []))→R (.ok (.ret .none)) s') :
  ∀ (k i:Nat) (s':Shared) (es:Array (Int×Value)) (ep:Nat) (t:SetTable),xs.length - i=k→i≤xs.length→(∀ b o,s.heap.get? b=some o→s'.heap.get? b=some o)→s'.gens=s.gens→s'.os=s.os→gY s'.heap I i (.list l)→
   s'.heap.get? D=some (cN es ep t)→cS W es t (dC (ks.take i) [])→
   codeAny (model W.prog W.w) A (.builtin "set.update.loop" ⟨[.ref D,.ref I],[]⟩) R s':=by
 have hIl:I∉Hd.at (.list l):=fun m=>by
  have:I=l:=aV.mp m
  rw [this,hg] at hI;exact nomatch hI
 have hl:=fA hks
 intro k
 induction k with
 | zero=>
  intro i s' es ep t hk hi kp hgn hos it hd d
  have hin:xs.length≤i:=Nat.le_of_sub_eq_zero hk
  refine codeAny_builtin F.entry_set_update_loop ?_
  rw [Around.under_plainId F.plain_set_update_loop _]
  show wpAny _ A.in1 (pyNext (.ref I) >>= _) _ _ s'
  refine ac (ax (j8 (F:=fun _=>False) (xs:=xs) (show A.in1.handled=none from hA) id it ⟨vs,n,kp _ _ hg,rv.mono (fun _ f=>f) fun a o _ e=>kp a o e⟩ hIl) (fun r' s₂ z=>?_) am)
  have res:=z.res
  rw [List.getElem?_eq_none hin] at res
  subst res
  show wpAny _ A.in1 (ret Value.none) _ _ s₂
  refine al (fin s₂ (fun b o e=>z.keep b o (fun q=>by rw [q,hI] at e;exact nn e) (kp b o e)) (z.gens.trans hgn) (z.os.trans hos) ⟨es,ep,t,z.keep D _ (fun q=>hID q.symm) hd,?_⟩)
  rw [List.take_of_length_le (hl▸hin)] at d
  exact d
 | succ k ih=>
  intro i s' es ep t hk hi kp hgn hos it hd d
  have hlt:i < xs.length:=Nat.lt_of_sub_eq_succ hk
  refine codeAny_builtin F.entry_set_update_loop ?_
  rw [Around.under_plainId F.plain_set_update_loop _]
  show wpAny _ A.in1 (pyNext (.ref I) >>= _) _ _ s'
  refine ac (ax (j8 (F:=fun _=>False) (xs:=xs) (show A.in1.handled=none from hA) id it ⟨vs,n,kp _ _ hg,rv.mono (fun _ f=>f) fun a o _ e=>kp a o e⟩ hIl) (fun r' s₂ z=>?_) am)
  have res:=z.res
  have hki:i < ks.length:=hl▸hlt
  have hxi:xs[i]? = some (.int ks[i]):=by rw [yv hks i,cj hki];rfl
  rw [hxi] at res
  obtain ⟨v,rfl,rvv,it2⟩:=res
  obtain ⟨u,rfl⟩:=rvv.q.int_inv
  have hd2:=z.keep D _ (fun q=>hID q.symm) hd
  show wpAny _ A.in1 (holding [Value.int ks[i] u] (setAdd D (.int ks[i] u)) >>= _) _ _ s₂
  refine ac (b5 ?_)
  unfold setAdd
  refine b5 ?_
  refine ac ((intKind W.prog W.w).pyHash (k:=ks[i]) (intKind_is _ _ _ _) ?_)
  have hlen':(dC (ks.take i) []).length≤i:=by
   have:=kJ (r:=ks.take i) (l:=[])
   rw [List.length_take,List.length_nil] at this
   exact aH this (Nat.min_le_left _ _)
  refine lV (s:={ s₂ with toks:=s₂.toks+1 }) hd2 d (dB List.Pairwise.nil) (eD (gR (aH hlen' (aH (Nat.le_of_lt hki) hlen))) (by decide)) fun b s'3 z'3=>?_
  obtain ⟨⟨es3,ep3,t'3,g'3,d'3⟩,b'3,e1,e2⟩:=z'3
  have e5:dC (ks.take (i+1)) []=ij ks[i] (dC (ks.take i) []):=
   bV (dB List.Pairwise.nil) (hQ (dB List.Pairwise.nil)) fun z=>by
    rw [gK,iQ,iQ,List.take_add_one,cj hki,cH]
    simp only [Option.toList_some,aV,List.not_mem_nil,or_false]
    exact Or.comm
  refine al ⟨plainId_quiet F.plain_set_update_loop _,ih (i+1) s'3 es3 ep3 t'3 (sub_succ hk) hlt (fun b o e=>?_) (e1.trans (z.gens.trans hgn)) (e2.trans (z.os.trans hos)) (it2.keep fun o e=>?_) g'3 (by rw [e5];exact d'3)⟩
  ·exact (b'3.2 b (fun q=>by rw [q,hD] at e;exact nn e)).trans (z.keep b o (fun q=>by rw [q,hI] at e;exact nn e) (kp b o e))
  ·exact (b'3.2 I hID).trans e
theorem mz {Q:String→Shared→Prop} (hT:s.TypeIs (.ref a) "set") (h:Q "set" s):wpAny (model W.prog W.w) A (typeNameOfCut 200 (.ref a)) Q E s:=by
 unfold typeNameOfCut shownTypeOf
 refine ac (ac (wpAny_typeOf hT ?_))
 simp only [show (Value.type "set"==Value.type "builtin_function_or_method")=false by decide,Bool.false_eq_true,if_false]
 refine al ?_
 have e:typeName (.type "set")=pure "set":=by unfold typeName;rw [find?_eq_fast];kernel_rfl
 rw [show typeNameCut 200 (.type "set")=typeName (.type "set") from rfl,e];exact al h
theorem rF {prog:Program} {w:World} {T newId initId:String} {Bi:Builtin} {args:List Value} {Q Q₁:Value→Shared→Prop} (ft:TypeCalled T newId initId)
  (hct:checkTypeCall T ⟨args,[]⟩=pure ()) (entryI:entryFor table initId=some Bi)
  (hnew:codeAny (model prog w) A.in1 (.call (.builtin newId) ⟨.type T::args,[]⟩) (wants Q₁ E) s)
  (hnext:∀ obj s₁,Q₁ obj s₁→s₁.TypeIs obj T∧codeAny (model prog w) A.in1 (.call (.builtin initId) ⟨obj::args,[]⟩) (wants (fun r s₂=>r=.none∧Q obj s₂) E) s₁) :
  wpAny (model prog w) A (call (.type T) args) Q E s:=by
 obtain ⟨c,tl,hmro⟩:=ft.mro
 have hmade:=ft.made
 have hsub:=ft.sub
 refine wpAny_call (codeAny_of_tree ?_)
 show wpAny _ _ (callAny (.type T) _) _ _ _
 refine al ⟨Code.quiet_builtin _ (by decide +kernel),codeAny_builtin PySem.F.entry_type_call ?_⟩
 rw [Around.under_plain (weight_type_call_type T args []) rfl]
 have h1:=ft.notType
 have h2:=ft.canCreate
 repeat (any_goals (first | assumption | wp_step))
 refine codeAny_mono hnew fun r s₁ hr=>?_
 induction r with
 | error e=>exact hr
 | ok fl=>
  induction fl with
  | ret obj=>
   obtain ⟨hT,hok⟩:=hnext _ _ hr
   have hli:=ft.init.lookup
   have hbi:=ft.init.bind obj
   repeat (any_goals (first | assumption | wp_step))
   refine codeAny_mono hok fun r'2 s₂ hr2=>?_
   induction r'2 with
   | error e=>exact hr2
   | ok fl2=>
    induction fl2 with
    | ret r=>
     obtain ⟨rfl,hq⟩:=hr2
     repeat (any_goals (first | assumption | wp_step))
    | _=>exact hr2.elim
  | _=>exact hr.elim
theorem F4 {l:Addr} {Q:Value→Shared→Prop} (hA:A.handled=none) (hg:s.heap.get? l=some (seqObj "list" vs.toArray n)) (rv:bR W (fun _=>False) s.heap xs vs)
  (hks:cZ xs=some ks) (hlen:ks.length≤1000)
  (h:∀ s',(∀ b o,s.heap.get? b=some o→s'.heap.get? b=some o)→s'.gens=s.gens→s'.os=s.os→(∃ es ep t,s'.heap.get? s.heap.objs.size=some (cN es ep t)∧cS W es t (dC ks []))→Q (.ref s.heap.objs.size) s') :
  wpAny (model W.prog W.w) A (call (.type "set") [.ref l]) Q E s:=by
 refine rF (Q₁:=fun obj s₁=>obj=.ref s.heap.objs.size∧s₁={ s with heap:=s.heap.push (cN #[] 0 (ez W)) }) PySem.F.called_set (PySem.F.typeCall_set_1 (.ref l)) PySem.F.entry_set_init
  (vT (W:=W) (.ref l) (E:=E) ⟨rfl,rfl⟩) ?_
 rintro obj s₁ ⟨rfl,rfl⟩
 have hS:(s.heap.push (cN #[] 0 (ez W))).get? s.heap.objs.size=some (cN #[] 0 (ez W)):=dG _ rfl
 have hT:Shared.TypeIs { s with heap:=s.heap.push (cN #[] 0 (ez W)) } (.ref s.heap.objs.size) "set":=⟨_,hS,rfl⟩
 refine ⟨hT,codeAny_call_builtin (A:=A.in1) PySem.F.called_set.init.plain PySem.F.entry_set_init (PySem.check_set_init_1 hT ?_)⟩
 have hol':(s.heap.push (cN #[] 0 (ez W))).get? l=some (seqObj "list" vs.toArray n):=bU _ hg
 have hl1:(s.heap.push (cN #[] 0 (ez W))).IsList l vs.toArray:=⟨_,hol',rfl,n,rfl⟩
 have hTl:Shared.TypeIs { s with heap:=s.heap.push (cN #[] 0 (ez W)) } (.ref l) "list":=⟨_,hol',rfl⟩
 unfold Builtin.«set.__init__»
 refine ac (al ?_)
 dsimp only
 refine ac (mz hT ?_)
 refine ac (m:=checkCount "set" 0 1 _) (al ?_)
 refine ac (al ?_)
 refine ac ?_
 unfold setUsed
 refine ac (bw hS (EM W) (al ?_))
 rw [av (by simp [ez,SetTable.fresh,SetTable.fill])]
 refine ac ?_
 unfold Builtin.Frozenset.updateFrom
 refine ac ?_
 unfold Builtin.Frozenset.isAnySet
 refine ac (wpAny_isInstance (T:="list") (b:=false) hTl PySem.F.sub_list_set ?_)
 refine wpAny_isInstance (T:="list") (b:=false) hTl PySem.F.sub_list_frozenset ?_
 rw [av (by simp)]
 refine ac (wpAny_typeOf hTl ?_)
 rw [av (by decide)]
 refine ac (wpAny_pyIter_list hl1 ?_)
 refine ac (wpAny_runValue ?_)
 have hsz:(s.heap.push (cN #[] 0 (ez W))).objs.size=s.heap.objs.size+1:=by rw [Heap.size_push]
 have hIn:s.heap.get? (s.heap.push (cN #[] 0 (ez W))).objs.size=none:=by
  induction q:s.heap.get? (s.heap.push (cN #[] 0 (ez W))).objs.size with
  | none=>rfl
  | some o=>exact absurd (hsz▸ef q) (Nat.not_lt.mpr (Nat.le_succ _))
 refine Dr (s:=s) (A:=A.in1.in1) (l:=l) (n:=n) (D:=s.heap.objs.size) hA hg rv hks hlen hIn (aS _) (by show (s.heap.push (cN #[] 0 (ez W))).objs.size≠s.heap.objs.size;rw [hsz];exact Nat.succ_ne_self _) (fun s' kp e1 e2 hd=>?_) xs.length 0 _ #[] 0 (ez W) (by lia) (ck _) (fun b o e=>?_) rfl rfl ?_ ?_ (EM W)
 ·exact al (al ⟨rfl,h s' kp e1 e2 hd⟩)
 ·exact bU _ (bU _ e)
 ·exact ⟨_,dG _ rfl,rfl,rfl⟩
 ·exact bU _ hS
theorem KZ {a t:T} (hA:A.handled=none) (x:dY W F s.heap a v) (e:bi .set a=some t):wpAny (model W.prog W.w) A (call (.type "set") [v]) (fG W F s t) E s:=by
 refine dw e fun xs hx e=>sr e fun hl e=>eT e fun ks hks z=>?_
 obtain ⟨vs,a,n,rfl,g,_,r⟩:=(et hx▸x).list_inv
 have hlen:=fA hks
 rw [z]
 refine F4 hA g (HC hks r) hks (by clear z e;lia) fun s' k e1 e2 ⟨es,ep,t,g',d⟩=>?_
 have e5:dC ks []=canon ks:=bV (dB List.Pairwise.nil) (aJ ks) fun z=>by rw [iQ,aN];simp
 rw [e5] at d
 have:=bL ks
 exact ⟨fun c=>F c∨c∈[s.heap.objs.size],b9.add (as:=[s.heap.objs.size]) ⟨e1,e2,k,fun _ f=>f,fun _=>.inl⟩ (fun c hc=>by rw [aV.mp hc];exact aS _) (fun c hc=>by rw [aV.mp hc];exact ⟨_,g'⟩),.set (.inr (aV.mpr rfl)) (aH this (aH (er hlen) (aH hl (by decide)))) ⟨es,ep,t,g',d,aJ ks⟩⟩
end
end
end Nz
namespace Nz
open PySem PySem.W
variable {p:Int×Int} {ps:List (Int×Int)}
section
theorem dW {q:Int×Int}:c7 p q=true↔p.1 < q.1∨p.1=q.1∧p.2 < q.2:=by
 unfold c7;rw [Bool.or_eq_true,bC,decide_eq_true_eq,decide_eq_true_eq,decide_eq_true_eq]
theorem uT (p:Int×Int):c7 p p=false:=Bool.eq_false_iff.mpr fun h=>(dW.mp h).elim (Int.lt_irrefl _) fun h=>Int.lt_irrefl _ h.2
theorem nW {q r:Int×Int} (h:c7 p q=true) (h':c7 q r=true):c7 p r=true:=
 dW.mpr ((dW.mp h).elim (fun a=>.inl ((dW.mp h').elim (fun c=>Int.lt_trans a c) fun c=>c.1▸a))
  fun a=>(dW.mp h').elim (fun c=>.inl (a.1▸c)) fun c=>.inr ⟨a.1.trans c.1,Int.lt_trans a.2 c.2⟩)
theorem vy {q:Int×Int} (h:p≠q):c7 p q=true∨c7 q p=true:=by
 rcases Int.lt_trichotomy p.1 q.1 with a | a | a
 ·exact .inl (dW.mpr (.inl a))
 ·rcases Int.lt_trichotomy p.2 q.2 with b | b | b
  ·exact .inl (dW.mpr (.inr ⟨a,b⟩))
  ·exact absurd (Prod.ext a b) h
  ·exact .inr (dW.mpr (.inr ⟨a.symm,b⟩))
 ·exact .inr (dW.mpr (.inl a))
theorem DX {q:Int×Int} (h:c7 p q=true):c7 q p=false:=
 Bool.eq_false_iff.mpr fun e=>by have:=nW h e;rw [uT] at this;exact bt this
noncomputable abbrev fk (l:List (Int×Int)):Prop:=l.Pairwise fun p q=>c7 p q=true
theorem wB {P:List (Int×Int)→List (Int×Int)→Prop} (h0:P [] [p]) (h1:∀ q r,c7 p q=true→P (q::r) (p::q::r)) (h2:∀ q r,¬ c7 p q=true→P r (xb p r)→P (q::r) (q::xb p r)) (l:List (Int×Int)):P l (xb p l):=by
 induction l with
 | nil=>exact h0
 | cons q r ih=>
  show P _ (if c7 p q=true then p::q::r else q::xb p r)
  exact iteInduction (fun e=>h1 q r e) fun e=>h2 q r e ih
theorem j9 (p:Int×Int) (l:List (Int×Int)):(xb p l).Perm (p::l):=
 wB (P:=fun l m=>m.Perm (p::l)) (.refl _) (fun _ _ _=>.refl _) (fun q r _ ih=>(ih.cons q).trans (.swap ..)) l
theorem bI (l:List (Int×Int)):(bh l).Perm l:=by
 induction l with
 | nil=>exact .refl _
 | cons p r ih=>exact (j9 p _).trans (ih.cons p)
theorem xi {l:List (Int×Int)} (h:fk l) (hn:p∉l):fk (xb p l):=
 wB (P:=fun l m=>fk l→p∉l→m.Perm (p::l)→fk m) (fun _ _ _=>List.pairwise_singleton _ _)
  (fun q r e h _ _=>List.pairwise_cons.mpr ⟨fun x hx=>(aU.mp hx).elim (fun d=>d▸e) fun d=>nW e (List.rel_of_pairwise_cons h d),h⟩)
  (fun q r e ih h hn _=>List.pairwise_cons.mpr ⟨fun x hx=>(aU.mp ((j9 p r).mem_iff.mp hx)).elim
   (fun d=>d▸(vy fun c:p=q=>hn (by rw [c];exact .head r)).resolve_left e) fun d=>List.rel_of_pairwise_cons h d,ih h.of_cons (fun m=>hn (.tail _ m)) (j9 p r)⟩) l h hn (j9 p l)
theorem ia {l:List (Int×Int)} (h:l.Nodup):fk (bh l):=by
 induction l with
 | nil=>exact .nil
 | cons p r ih=>exact xi (ih (cP.mp h).2) fun m=>(cP.mp h).1 ((bI r).mem_iff.mp m)
theorem Af {xs ys:List (Int×Int)} (hx:fk xs) (hy:fk ys) (h:xs.Perm ys):xs=ys:=
 h.eq_of_pairwise (fun _ _ _ _ p q=>by rw [DX p] at q;exact bt q) hx hy
noncomputable def G1 {α:Type} (lt:Nat→Nat→Bool) (n:Nat):KasT α→Option α
 | .ret a=>some a
 | .ask i j k=>if i < n∧j < n then G1 lt n (k (lt i j)) else none
noncomputable def PI (n:Nat) (r:Nat→Nat):Bool:=((G1 (fun i j=>decide (r i < r j)) n (kas_sort n)).map fun p=>p.toList.isPerm (List.range n)&&decide (p.toList.map r=List.range n)).getD false
noncomputable def HR (n:Nat):Nat→List (List Nat)
 | 0=>[[]]
 | m+1=>(HR n m).flatMap fun l=>(List.range n).map fun a=>a::l
theorem Dd {n:Nat} (l:List Nat) (hx:∀ x∈l,x < n):l∈HR n l.length:=by
 induction l with
 | nil=>exact .head _
 | cons a l ih=>exact List.mem_flatMap.mpr ⟨l,ih fun x m=>hx x (.tail _ m),bo.mpr ⟨a,List.mem_range.mpr (hx a (.head _)),rfl⟩⟩
theorem G9:([2,3,4].all fun n=>(HR n n).all fun r=>!(decide r.Nodup)||PI n (fun i=>r.getD i 0))=true:=by decide +kernel
noncomputable def iC (ps:List (Int×Int)) (p:Int×Int):Nat:=ps.countP fun q=>c7 q p
theorem xn {f g:Int×Int→Bool} {q:Int×Int} (hfg:∀ q,f q=true→g q=true) (hq:q∈ps) (h1:f q=false) (h2:g q=true):ps.countP f < ps.countP g:=by
 rw [List.countP_eq_countP_filter_add ps g f,List.countP_filter]
 exact eD (List.countP_mono_left fun x _ h=>by rw [hfg x h,h];rfl) (Nat.lt_add_of_pos_right (List.countP_pos_iff.mpr ⟨q,b7.mpr ⟨hq,by rw [h1];rfl⟩,h2⟩))
theorem p7 {q:Int×Int} (hp:p∈ps) (h:c7 p q=true):iC ps p < iC ps q:=
 xn (fun x hx=>nW hx h) hp (uT p) h
theorem EW {q:Int×Int} (hp:p∈ps) (hq:q∈ps):iC ps p < iC ps q↔c7 p q=true:=
 ⟨fun h=>Classical.byContradiction fun e=>by
  by_cases hpq:p=q
  ·rw [hpq] at h;exact Nat.lt_irrefl _ h
  ·exact Nat.lt_asymm h (p7 hq ((vy hpq).resolve_left e)),p7 hp⟩
theorem zf (hp:p∈ps):iC ps p < ps.length:=
 gB (xn (g:=fun _=>true) (fun _ _=>rfl) hp (uT p) rfl) List.countP_le_length
theorem vA {α:Type} (lt:Nat→Nat→Bool) (n i j:Nat) (k:Bool→KasT α):G1 lt n (.ask i j k)=if i < n∧j < n then G1 lt n (k (lt i j)) else none:=rfl
theorem Ce {α:Type} {lt lt':Nat→Nat→Bool} {n:Nat} (h:∀ i j,i < n→j < n→lt i j=lt' i j) (t:KasT α):G1 lt n t=G1 lt' n t:=by
 induction t with
 | ret a=>rfl
 | ask i j k ih=>
  rw [vA,vA,ih]
  by_cases hij:i < n∧j < n
  ·rw [h i j hij.1 hij.2]
  ·rw [av hij,av hij]
theorem Cr {n:Nat} (h2:2≤n) (h4:n≤4):n∈[2,3,4]:=by
 rcases Nat.lt_or_eq_of_le h4 with h | h
 ·rcases Nat.lt_or_eq_of_le (Nat.le_of_lt_succ h) with h | h
  ·rw [Nat.le_antisymm (Nat.le_of_lt_succ h) h2];exact .head _
  ·rw [h];exact .tail _ (.head _)
 ·rw [h];exact .tail _ (.tail _ (.head _))
theorem BC (ps:List (Int×Int)):(List.range ps.length).map (fun i=>ps.getD i (0,0))=ps:=by
 refine List.ext_getElem (by rw [ba,ei]) fun i h1 h2=>?_
 rw [List.getElem_map,List.getElem_range,g9,cj h2];rfl
theorem wR (hn:ps.Nodup):(ps.map (iC ps)).Nodup:=
 List.pairwise_map.mpr (hn.imp_of_mem fun {a b} ha hb hab e=>(vy hab).elim (fun h=>Nat.ne_of_lt (p7 ha h) e) fun h=>Nat.ne_of_lt (p7 hb h) e.symm)
theorem lX {i:Nat} (hi:i < ps.length):ps.getD i (0,0)∈ps∧(ps.map (iC ps)).getD i 0=iC ps (ps.getD i (0,0)):=by
 rw [g9,g9,dO,cj hi]
 exact ⟨List.getElem_mem hi,rfl⟩
theorem v6 {i j:Nat} (hi:i < ps.length) (hj:j < ps.length):(ps.map (iC ps)).getD i 0 < (ps.map (iC ps)).getD j 0↔c7 (ps.getD i (0,0)) (ps.getD j (0,0))=true:=by
 rw [(lX hi).2,(lX hj).2];exact EW (lX hi).1 (lX hj).1
theorem CA (h2:2≤ps.length) (h4:ps.length≤4) (hn:ps.Nodup) :
  ∃ p,G1 (fun i j=>c7 (ps.getD i (0,0)) (ps.getD j (0,0))) ps.length (kas_sort ps.length)=some p∧p.size=ps.length∧(∀ i∈p.toList,i < ps.length)∧p.toList.map (fun i=>ps.getD i (0,0))=bh ps:=by
 have hm:ps.map (iC ps)∈HR ps.length ps.length:=by
  have:=Dd (n:=ps.length) (ps.map (iC ps)) fun x hx=>by
   obtain ⟨p,hp,rfl⟩:=bo.mp hx
   exact zf hp
  rw [ba] at this;exact this
 have hc:=aY.mp (aY.mp G9 ps.length (Cr h2 h4)) _ hm
 rw [br (wR hn)] at hc
 replace hc:PI ps.length (fun i=>(ps.map (iC ps)).getD i 0)=true:=hc
 unfold PI at hc
 rw [Ce (lt':=fun i j=>c7 (ps.getD i (0,0)) (ps.getD j (0,0))) (fun i j hi hj=>Bool.eq_iff_iff.mpr (decide_eq_true_iff.trans (v6 hi hj)))] at hc
 induction e:G1 (fun i j=>c7 (ps.getD i (0,0)) (ps.getD j (0,0))) ps.length (kas_sort ps.length) with
 | none=>rw [e] at hc;exact bt hc
 | some p=>
  rw [e] at hc
  obtain ⟨hp,hr⟩:=cB.mp (show (p.toList.isPerm (List.range ps.length)&&_)=true from hc)
  have hp:=List.isPerm_iff.mp hp
  have hb:∀ i∈p.toList,i < ps.length:=fun i hi=>List.mem_range.mp (hp.mem_iff.mp hi)
  have hw:=List.pairwise_map.mp (bH hr▸List.pairwise_lt_range)
  exact ⟨p,rfl,by rw [← eX,hp.length_eq,ei],hb,Af (List.pairwise_map.mpr (hw.imp_of_mem fun ha hb' h=>(v6 (hb _ ha) (hb _ hb')).mp h)) (ia hn)
   (((hp.map _).trans (.of_eq (BC ps))).trans (bI ps).symm)⟩
end
end Nz
namespace Nz
open PySem PyProof.Rows PySem.W
variable {xs:List Str} {n k i ep j:Nat} {Q E:Value→Shared→Prop} {a:Addr} {vs vals:List Value} {P:Prop} {α β:Type} {s s':Shared} {M:Model} {v:Value} {A:Around} {es args:List Expr} {kvs:List (bK×T)} {G:List bY} {W:Wd} {env:PySem.Env} {as:List Addr} {x y:Str} {pos p ap px:Pos} {F F':Addr→Prop} {ρ:Env} {op:CmpOp} {o:jf} {ds:sw} {value tgt elt iter:Expr} {fs:List (Nat×T)} {sc scope:PySem.Scope} {ns:List (Str×NameKind)} {is params:List Nm} {K:T→Env→Prop} {use:Option (Value→Sem Unit)} {gs:List Comprehension} {ks:List Keyword} {b:List Stmt} {m:Str→Option Value}
section
theorem KG {sh:Bool} {x:T} {p:Int×Int} (e:pk sh x=some p):x=gV sh p:=
 dw e fun q h1 e=>dw e fun a h2 e=>eT e fun b h3 z=>by
  rw [q5 h1,cC h3,z]
  induction sh with
  | false=>rw [cC h2];rfl
  | true=>exact dw h2 fun t h4 h5=>dw h4 fun l h6 h7=>by rw [rj h6,zF h7,cC h5];rfl
theorem zM {sh:Bool} {xs:List T}:∀ {ps:List (Int×Int)},Od sh xs=some ps→xs=ps.map (gV sh):=by
 induction xs with
 | nil=>intro ps e;rw [← az e];rfl
 | cons x xs ih=>intro ps e;exact dw e fun p hp e=>eT e fun ps' hps z=>by rw [z,KG hp,ih hps];rfl
section
variable {W:Wd} {F:Addr→Prop} {s:Shared} {A:Around} {E:Value→Shared→Prop}
theorem HV {p q:Addr} {a c:Int} {t u:Tok} {Q:Bool→Shared→Prop} (hu:A.units < cLine) (gp:s.heap.get? p=some (seqObj "tuple" #[.int a t] n)) (gq:s.heap.get? q=some (seqObj "tuple" #[.int c u] k)) (hne:a≠c)
  (h:Q (decide (a < c)) s):wpAny (model W.prog W.w) A (compareOp .Lt (.ref p) (.ref q)) (PySem.W.BoolBack Q) E s:=by
 have tp:s.TypeIs (.ref p) "tuple":=⟨_,gp,rfl⟩
 have tq:s.TypeIs (.ref q) "tuple":=⟨_,gq,rfl⟩
 show wpAny _ _ (richCompare .Lt (.ref p) (.ref q)) _ _ s
 refine wpAny_richCompare_same_room tp tq PySem.F.slot_tuple_lt (eR PySem.F.slot_tuple_lt tp PySem.F.entry_tuple_lt ?_ (PySem.F.args_tuple_lt_2 _ _)) hu
 show wpAny _ _ (do
  if !(← isInstance (.ref q) (.type "tuple")) then return ← ret .notImplemented
  let xs ← Builtin.Tuple.tupleItemsOf (.ref p)
  let ys ← Builtin.Tuple.tupleItemsOf (.ref q)
  for (x,y) in xs.toList.zip ys.toList do
   if !(← eqBool x y) then
    rule "tuple.compare.by-the-first-pair-that-differs";return ← ret (← richCompare .Lt x y)
  ret (Builtin.Tuple.tupleCompareSizes .Lt xs.size ys.size)) _ _ s
 refine ac (wpAny_isInstance (T:="tuple") (b:=true) tq (by rw [isSubtype_type];kernel_rfl) ?_)
 rw [av (by simp)]
 refine ac (tupleItemsOf_ ⟨_,gp,rfl,_,rfl⟩ (ac (tupleItemsOf_ ⟨_,gq,rfl,_,rfl⟩ ?_)))
 refine ac ?_
 show wpAny _ _ (forIn [(Value.int a t,Value.int c u)] _ _) _ _ s
 rw [List.forIn_cons]
 refine ac (ac (wpAny_eqBool_int ?_))
 rw [show (a==c)=false by simpa using hne]
 simp only [Bool.not_false,↓reduceIte]
 refine ac (wpAny_rule (ac (P.lt_int ?_)))
 exact ac (al (al (al (al ⟨_,rfl,by simp,h⟩))))
theorem ES {a b d:Int}:c7 (a,b) (a,d)=decide (b < d):=by simp [c7]
theorem Db {a b c d:Int} (hne:a≠c):c7 (a,b) (c,d)=decide (a < c):=by simp [c7,hne]
theorem qy {sh:Bool} {b d:Int} {t u:Tok} {Q:Bool→Shared→Prop} (h:Q (decide (b < d)) s):KatLex W.prog W.w A (!sh) (decide (2 < 2)) Q [(Value.int b t,Value.int d u)] (n+1) s:=by
 refine kat_cons (wpAny_eqBool_int (kat_go (fun e=>kat_yes (kat_nil ?_)) fun e=>kat_no ?_))
 ·have:b=d:=bm.mp e
  subst this
  rw [decide_eq_false (Int.lt_irrefl b)] at h;exact h
 ·rw [show ((!sh)&&(n+1==0))=false from Bool.and_false _]
  exact kat_one _ _ (P.lt_int h)
inductive I4 (h:Heap) (a b:Int):Value→Prop where
 | mk (ad:Addr) (n:Nat) (t u:Tok) (g:h.get? ad=some (seqObj "tuple" #[.int a t,.int b u] n)):I4 h a b (.ref ad)
theorem IY {h:Heap} {a b:Int} {x:Value} (r:VR W F h (.tup [.int a,.int b]) x):I4 h a b x:=by
 obtain ⟨vs,ad,n,rfl,_,g,_,r⟩:=r.tup_inv
 obtain ⟨v,w,r1,r2⟩:=r.two
 obtain ⟨t,rfl⟩:=r1.q.int_inv
 obtain ⟨u,rfl⟩:=r2.q.int_inv
 exact ⟨ad,n,t,u,g⟩
inductive Je (W:Wd) (h:Heap) (a b:Int):Value→Prop where
 | mk (ad p:Addr) (n m:Nat) (t u:Tok) (g:h.get? ad=some (seqObj "tuple" #[.ref p,.int b u] n)) (gp:h.get? p=some (seqObj "tuple" #[.int a t] m)) (r:VR W ej h (.tup [.int a]) (.ref p)):Je W h a b (.ref ad)
theorem I9 {h:Heap} {a b:Int} {x:Value} (r:VR W F h (.tup [.tup [.int a],.int b]) x):Je W h a b x:=by
 obtain ⟨vs,ad,n,rfl,_,g,_,r⟩:=r.tup_inv
 obtain ⟨v,w,r1,r2⟩:=r.two
 obtain ⟨u,rfl⟩:=r2.q.int_inv
 obtain ⟨ws,p,m,rfl,_,gp,_,r3⟩:=id r1.tup_inv
 obtain ⟨z,r4⟩:=r3.one
 obtain ⟨t,rfl⟩:=r4.q.int_inv
 exact ⟨ad,p,n,m,t,u,g,gp,r1.up⟩
theorem IB {sh:Bool} {p q:Int×Int} {x y:Value} {Q:Bool→Shared→Prop} (hu:A.units+20 < cLine) (rx:VR W F s.heap (gV sh p) x) (ry:VR W F s.heap (gV sh q) y) (h:Q (c7 p q) s) :
  wpAny (model W.prog W.w) A (keyLt' (tuples' (!sh)) x y) Q E s:=by
 obtain ⟨a,b⟩:=p
 obtain ⟨c,d⟩:=q
 induction sh with
 | false=>
  obtain ⟨ad,n,t1,t2,g⟩:=IY (a:=a) (b:=b) rx
  obtain ⟨ad',n',u1,u2,g'⟩:=IY (a:=c) (b:=d) ry
  refine kat_lt g rfl g' rfl (kat_cons (wpAny_eqBool_int (kat_go (fun e=>kat_yes ?_) fun e=>kat_no ?_)))
  ·have:a=c:=bm.mp e
   subst this
   exact qy (ES▸h)
  ·exact oneLt_int (Db (eG.mp e)▸h)
 | true=>
  obtain ⟨ad,p,n,m,t1,t2,g,gp,r⟩:=I9 (a:=a) (b:=b) rx
  obtain ⟨ad',q,n',m',u1,u2,g',gq,r'⟩:=I9 (a:=c) (b:=d) ry
  have he:z0 (.tup [.int a]) (.tup [.int c])=some (decide (a=c)&&true):=rfl
  rw [Bool.and_true] at he
  refine kat_lt g rfl g' rfl (kat_cons (Fu he r r' (eD (Nat.add_le_add_left (show depth (.tup [.int a])≤20 from show 1≤20 by decide) _) hu) W.prog W.w _ _ (kat_go (fun e=>kat_yes ?_) fun e=>kat_no ?_)))
  ·have:a=c:=bH e
   subst this
   exact qy (ES▸h)
  ·have hne:a≠c:=of_decide_eq_false e
   exact kat_one _ _ (HV (A:=A) (E:=fun _ _=>False) (eD (Nat.le_add_right _ _) hu) gp gq hne (Db hne▸h))
end
end
section
theorem Fy {ks ns:List Int} (hn:ks.Nodup) (hp:ns.Perm ks) (hs:ns.Pairwise (·≤·)):ns=canon ks:=by
 refine bV ?_ (aJ ks) fun k=>by rw [aN];exact hp.mem_iff
 have hn':ns.Nodup:=hp.nodup_iff.mpr hn
 exact (hs.and hn').imp fun {a b} h=>by have:=h.1;have:=h.2;lia
section
variable {W:Wd} {F:Addr→Prop} {s:Shared} {A:Around} {E:Value→Shared→Prop}
noncomputable def v5 (W:Wd) (F:Addr→Prop) (a:Addr) (ys:List T) (s:Shared) (P:PySem.Fin→Shared→Prop):Prop:=
 ∀ h' out n,(∀ b o,b≠a→s.heap.get? b=some o→h'.get? b=some o)→h'.get? a=some (seqObj "list" out.toArray n)→bR W F h' ys out→P (.done (.ret .none)) { s with heap:=h' }
theorem F6 {xs:List T} {P:PySem.Fin→Shared→Prop} (ho:s.heap.get? a=some (seqObj "list" vs.toArray n)) (hF:¬ F a) (r:bR W F s.heap xs vs) (h1:xs.length≤1) (h:v5 W F a xs s P) :
  wpAny (model W.prog W.w) A (Builtin.«list.sort» ⟨[.ref a],[]⟩) P E s:=by
 have hl:=r.length
 rw [list_sort_plain]
 have ha:a < s.heap.objs.size:=ef ho
 refine ac (listItems_at ho rfl ?_)
 refine ac (listUpdate_at ho rfl ?_ (by rw [cO,sizeLine_eq];lia) (ck _))
 obtain ⟨e1,ho1⟩:∃ e1,(s.heap.update a (Obj.mapSeq fun _=>#[])).get? a=some (seqObj "list" #[] e1):=⟨_,get?_update_seq ho (fun _=>#[])⟩
 refine ac (seqEpoch_at ho1 rfl ?_)
 refine ac (wpAny_newTuple ?_ (by show vs.length≤_;rw [sizeLine_eq];lia))
 refine ac (wpAny_newList ?_ (ck _))
 refine b5 ?_
 have ho6:(((s.heap.update a (Obj.mapSeq fun _=>#[])).push (seqObj "tuple" vs.toArray 0)).push (seqObj "list" #[] 0)).get? a=some (seqObj "list" #[] e1):=bU _ (bU _ ho1)
 show wpAny (model W.prog W.w) A _ P E { s with heap:=((s.heap.update a (Obj.mapSeq fun _=>#[])).push (seqObj "tuple" vs.toArray 0)).push (seqObj "list" #[] 0) }
 dsimp only
 have h2:vs.toArray.size < 2:=by rw [cO];lia
 rw [au h2,au h2]
 refine ac (al ?_)
 rw [StateT.run_pure]
 refine ac (al ?_)
 dsimp only
 have e5:(arrOf (SortSt.mk' general' (vs.toArray.zip vs.toArray) #[] 7 none)).map (·.2)=vs.toArray:=by
  show (vs.toArray.zip vs.toArray).map (·.2)=vs.toArray
  apply Array.toList_inj.mp
  rw [Array.toList_map,Array.toList_zip]
  exact List.map_snd_zip (Nat.le_refl _)
 rw [e5]
 refine ac (seqEpoch_at ho6 rfl ?_)
 refine ac (listUpdate_at ho6 rfl ?_ (ck _) (by rw [cO,sizeLine_eq];lia))
 simp only [bne_self_eq_false,Bool.false_eq_true,if_false]
 have k:∀ b o,b≠a→s.heap.get? b=some o→((((s.heap.update a (Obj.mapSeq fun _=>#[])).push (seqObj "tuple" vs.toArray 0)).push (seqObj "list" #[] 0)).update a (Obj.mapSeq fun _=>vs.toArray)).get? b=some o:=fun b o hb e=>
  (ik _ _ (Ne.symm hb)).trans (bU _ (bU _ ((ik _ _ (Ne.symm hb)).trans e)))
 exact al (h _ vs _ k (get?_update_seq ho6 fun _=>vs.toArray) (r.mono (fun _ f=>f) fun b o f e=>k b o (fun q=>hF (q▸f)) e))
theorem B4 {xs:List T} {ks:List Int} {P:PySem.Fin→Shared→Prop} (ho:s.heap.get? a=some (seqObj "list" vs.toArray n)) (r:bR W F s.heap xs vs) (hk:cZ xs=some ks) (h60:ks.length < 60) (hn:ks.Nodup)
  (h:v5 W F a ((canon ks).map .int) s P):wpAny (model W.prog W.w) A (Builtin.«list.sort» ⟨[.ref a],[]⟩) P E s:=by
 have hl:=r.length
 have hlk:=fA hk
 refine list_sort_tree ho (we hk r) (by lia) fun out ns' h1 h2 h3=>?_
 rw [Fy hn h2 h3] at h1
 obtain ⟨e1,ho1⟩:∃ e1,(s.heap.update a (Obj.mapSeq fun _=>#[])).get? a=some (seqObj "list" #[] e1):=⟨_,get?_update_seq ho (fun _=>#[])⟩
 have ho6:(((s.heap.update a (Obj.mapSeq fun _=>#[])).push (seqObj "tuple" vs.toArray 0)).push (seqObj "list" #[] 0)).get? a=some (seqObj "list" #[] e1):=bU _ (bU _ ho1)
 obtain ⟨m,hg⟩:∃ m,(sortedHeap s.heap a vs out).get? a=some (seqObj "list" out.toList.toArray m):=⟨_,by rw [Array.toArray_toList];exact get?_update_seq ho6 fun _=>out⟩
 exact h _ out.toList m (fun b o hb e=>(ik _ _ (Ne.symm hb)).trans (bU _ (bU _ ((ik _ _ (Ne.symm hb)).trans e)))) hg (wc h1)
theorem FD {lt:Nat→Nat→Bool} {κ:SortKind} {Q:α→Shared→Prop}
  (hask:∀ i j C,i < n→j < n→C (lt i j) s→kas_ask W.prog W.w A κ vs i j C s):∀ (t:KasT α) (a:α),G1 lt n t=some a→Q a s→t.kasWp (kas_ask W.prog W.w A κ vs) Q s
 | .ret b,a,e,q=>by obtain rfl:=az e;exact q
 | .ask i j k,a,e,q=>by
  rw [vA] at e
  by_cases hij:i < n∧j < n
  ·rw [au hij] at e;exact hask i j _ hij.1 hij.2 (FD hask _ a e q)
  ·rw [av hij] at e;exact nn e
theorem bR.getD {h:Heap} {xs:List T} (r:bR W F h xs vs) (hi:i < xs.length) (d:T):VR W F h (xs.getD i d) (vs.getD i Value.none):=by
 obtain ⟨v,h1,h2⟩:=r.get (cj hi)
 rw [g9,g9,h1,cj hi]
 exact h2
theorem bR.pick {h:Heap} {xs:List T} (r:bR W F h xs vs) (d:T):∀ {l:List Nat},(∀ i∈l,i < xs.length)→bR W F h (l.map fun i=>xs.getD i d) (l.map fun i=>vs.getD i Value.none)
 | [],_=>.nil
 | i::l,hb=>.cons (r.getD (hb i (by simp)) d) (r.pick d fun j hj=>hb j (List.mem_cons_of_mem _ hj))
noncomputable def Dl (sh:Bool) (p:Int×Int):T:=match sh with | false=>.int p.1 | true=>.tup [.int p.1]
theorem BJ {sh:Bool} {h:Heap} {ps:List (Int×Int)}:∀ {vs:List Value},bR W F h (ps.map (gV sh)) vs→∃ fs,KatTups h vs fs∧bR W F h (ps.map (Dl sh)) fs:=by
 induction ps with
 | nil=>intro vs r;rw [r.inv0];exact ⟨[],KatTups.nil,.nil⟩
 | cons p ps ih=>
  intro vs r
  obtain ⟨v,vs,x,r2⟩:=bR.inv (t:=gV sh p) (ts:=ps.map (gV sh)) r
  obtain ⟨fs,k,rf⟩:=ih r2
  obtain ⟨us,ad,n,rfl,_,g,_,r⟩:=(show VR W F h (.tup [Dl sh p,.int p.2]) v by induction sh<;>exact x).tup_inv
  obtain ⟨v1,v2,a,b⟩:=r.two
  exact ⟨v1::fs,KatTups.cons g rfl rfl (by simp) k,.cons a rf⟩
theorem DK {sh:Bool} {h:Heap} {ps:List (Int×Int)} {fs:List Value} (r:bR W F h (ps.map (Dl sh)) fs):∀ v∈fs,Looks M h (typeOf v) (Value.type (if sh then "tuple" else "int")):=by
 intro v hv
 obtain ⟨i,hi,rfl⟩:=List.getElem_of_mem hv
 obtain ⟨t,ht,x⟩:=r.getv (cj hi)
 rw [dO] at ht
 obtain ⟨p,_,rfl⟩:=oE.mp ht
 induction sh with
 | false=>
  obtain ⟨u,hu⟩:=(show VR W F h (.int p.1) _ from x).q.int_inv
  rw [hu]
  exact .now
 | true=>
  obtain ⟨vs,ad,n,hv,_,g,_,_⟩:=(show VR W F h (.tup [.int p.1]) _ from x).tup_inv
  rw [hv]
  exact (Looks.ld g).andThen .now
theorem yK {sh:Bool} {ps:List (Int×Int)} {P:PySem.Fin→Shared→Prop} (hu:A.units+20 < cLine) (ho:s.heap.get? a=some (seqObj "list" vs.toArray n)) (hF:¬ F a) (r:bR W F s.heap (ps.map (gV sh)) vs)
  (h2:2≤ps.length) (h4:ps.length≤4) (hn:ps.Nodup) (h:v5 W F a ((bh ps).map (gV sh)) s P) :
  wpAny (model W.prog W.w) A (Builtin.«list.sort» ⟨[.ref a],[]⟩) P E s:=by
 have hl:ps.length=vs.length:=by have:=r.length;rwa [ba] at this
 have ha:a < s.heap.objs.size:=ef ho
 obtain ⟨e1,ho1⟩:∃ e1,(s.heap.update a (Obj.mapSeq fun _=>(#[]:Array Value))).get? a=some (seqObj "list" #[] e1):=⟨_,get?_update_seq ho fun _=>#[]⟩
 rw [list_sort_plain]
 refine ac (listItems_at ho rfl ?_)
 refine ac (listUpdate_at ho rfl ?_ (by rw [cO,sizeLine_eq];lia) (ck _))
 refine ac (seqEpoch_at ho1 rfl ?_)
 refine ac (wpAny_newTuple ?_ (by show vs.length≤_;rw [sizeLine_eq];lia))
 refine ac (wpAny_newList ?_ (ck _))
 refine b5 ?_
 show wpAny (model W.prog W.w) A _ P E { s with heap:=((s.heap.update a (Obj.mapSeq fun _=>(#[]:Array Value))).push (seqObj "tuple" vs.toArray 0)).push (seqObj "list" #[] 0) }
 dsimp only
 have hn2:¬ vs.toArray.size < 2:=by rw [cO];lia
 rw [av hn2,av hn2]
 have kk:∀ b o,b≠a→s.heap.get? b=some o→(((s.heap.update a (Obj.mapSeq fun _=>(#[]:Array Value))).push (seqObj "tuple" vs.toArray 0)).push (seqObj "list" #[] 0)).get? b=some o:=fun b o hb e=>
  bU _ (bU _ ((ik _ _ (Ne.symm hb)).trans e))
 have r3:bR W F (((s.heap.update a (Obj.mapSeq fun _=>(#[]:Array Value))).push (seqObj "tuple" vs.toArray 0)).push (seqObj "list" #[] 0)) (ps.map (gV sh)) vs:=r.mono (fun _ f=>f) fun b o f e=>kk b o (fun q=>hF (q▸f)) e
 have na:(((s.heap.update a (Obj.mapSeq fun _=>(#[]:Array Value))).push (seqObj "tuple" vs.toArray 0)).push (seqObj "list" #[] 0)).get? a=some (seqObj "list" #[] e1):=bU _ (bU _ ho1)
 obtain ⟨fs,kt,rf⟩:=BJ r3
 have hfl:0 < fs.length:=by have:=rf.length;rw [ba] at this;lia
 refine ac (kat_kind kt hfl (DK rf) (by induction sh<;>decide) ?_)
 have hkind:((Value.type (if sh then "tuple" else "int")) != Value.type "tuple")=!sh:=by induction sh<;>decide
 rw [hkind]
 obtain ⟨p,hgo,hps,hpb,hpc⟩:=CA h2 h4 hn
 have gd:∀ i,i < ps.length→(ps.map (gV sh)).getD i .none=gV sh (ps.getD i (0,0)):=fun i hi=>by
  rw [g9,g9,dO,cj hi];rfl
 refine ac (ax (kat_run (E:=E) (ks:=vs) (vs:=vs) (G:=fun p' s'=>p'=p∧s'={ s with heap:=((s.heap.update a (Obj.mapSeq fun _=>(#[]:Array Value))).push (seqObj "tuple" vs.toArray 0)).push (seqObj "list" #[] 0) })
  (Q:=fun st' s'=>(arrOf st')=p.map (kas_item (vs.toArray.zip vs.toArray))∧failedOf st'=none∧s'={ s with heap:=((s.heap.update a (Obj.mapSeq fun _=>(#[]:Array Value))).push (seqObj "tuple" vs.toArray 0)).push (seqObj "list" #[] 0) })
  rfl (by lia) (by lia) (fun p' st' s' a1 a2 a3 a4=>⟨by rw [← a4.1];exact a2,a3,a4.2⟩) ?_) ?_ am)
 ·rw [← hl]
  refine FD (n:=ps.length) (fun i j C hi hj hC=>?_) _ p hgo ⟨rfl,rfl⟩
  unfold kas_ask
  refine IB (F:=F) (sh:=sh) (p:=ps.getD i (0,0)) (q:=ps.getD j (0,0)) hu ?_ ?_ hC
  ·rw [← gd i hi];exact r3.getD (by rw [ba];exact hi) _
  ·rw [← gd j hj];exact r3.getD (by rw [ba];exact hj) _
 rintro ⟨⟨⟩,st'⟩ s' ⟨har,hf,rfl⟩
 dsimp only
 have hout:=kat_snds (ks:=vs) (vs:=vs) rfl har
 have hsz:(List.toArray (p.toList.map fun i=>vs.getD i Value.none)).size=vs.length:=by rw [cO,ba,eX,hps,hl]
 rw [hout]
 refine ac (seqEpoch_at na rfl ?_)
 refine ac (listUpdate_at na rfl ?_ (ck _) (aH (er hsz) (by rw [sizeLine_eq];lia)))
 rw [hf]
 simp only [bne_self_eq_false,Bool.false_eq_true,if_false]
 have hk2:∀ b o,b≠a→s.heap.get? b=some o→((((s.heap.update a (Obj.mapSeq fun _=>(#[]:Array Value))).push (seqObj "tuple" vs.toArray 0)).push (seqObj "list" #[] 0)).update a (Obj.mapSeq fun _=>List.toArray (p.toList.map fun i=>vs.getD i Value.none))).get? b=some o:=fun b o hb e=>
  (ik _ _ (Ne.symm hb)).trans (kk b o hb e)
 refine al (h _ _ _ hk2 (get?_update_seq na fun _=>List.toArray (p.toList.map fun i=>vs.getD i Value.none)) ?_)
 have hpk:=r.pick .none (l:=p.toList) fun i hi=>by rw [ba];exact hpb i hi
 have e6:(p.toList.map fun i=>(ps.map (gV sh)).getD i .none)=(bh ps).map (gV sh):=by
  rw [← hpc,cu]
  exact iD fun i hi=>gd i (hpb i hi)
 rw [e6] at hpk
 exact hpk.mono (fun _ f=>f) fun b o f e=>hk2 b o (fun q=>hF (q▸f)) e
set_option tactic.hygienic true in
theorem GV {xs ys:List T} {P:PySem.Fin→Shared→Prop} (hu:A.units+20 < cLine) (e:iv xs=some ys) (ho:s.heap.get? a=some (seqObj "list" vs.toArray n)) (hF:¬ F a) (r:bR W F s.heap xs vs) (h:v5 W F a ys s P) :
  wpAny (model W.prog W.w) A (Builtin.«list.sort» ⟨[.ref a],[]⟩) P E s:=by
 have two:∀ {sh:Bool} {zs:List T},1 < xs.length→kL sh xs=some zs→v5 W F a zs s P→wpAny (model W.prog W.w) A (Builtin.«list.sort» ⟨[.ref a],[]⟩) P E s:=by
  intro sh zs hl e h
  unfold kL at e
  obtain ⟨ps,hps,e⟩:=kE.mp e
  split at e
  ·rename_i hc
   obtain rfl:=az e
   have hx:=zM hps
   rw [hx] at r hl
   rw [ba] at hl
   exact yK hu ho hF r (by lia) hc.1 hc.2 h
  ·exact nn e
 unfold iv at e
 split at e
 ·rename_i h1
  obtain rfl:=az e
  exact F6 ho hF r h1 h
 ·rename_i h1
  split at e
  ·rename_i ks hk
   split at e
   ·rename_i hc
    obtain rfl:=az e
    exact B4 ho r hk hc.1 hc.2 h
   ·exact nn e
  ·split at e
   ·rename_i zs hz
    obtain rfl:=az e
    exact two (by lia) hz h
   ·exact two (by lia) e h
end
end
section
theorem iR:PySem.Slot "set_iterator" "__next__" "set_iterator.__next__":=
 .of (owner:="set_iterator") (n:="__next__") (by rw [typeLookup_type,builtinLookup_eq_fast];kernel_rfl) (by decide +kernel) (by decide +kernel) (by decide +kernel)
  (by first | exact .inl (by decide +kernel) | exact .inr (by decide +kernel)) (by rw [isSubtype_type];kernel_rfl)
theorem s0:entryFor table "set_iterator.__next__"=some Builtin.«set_iterator.__next__»:=entryFor_of_tree (by kernel_rfl)
theorem EU:Manifest.owners.lookup (String.ofList ['r','o','t','a','r','e','t','i','_','t','e','s'].reverse)=some Manifest.sig_set_iterator:=by kernel_rfl
theorem vO (a:Value):argsOk "set_iterator.__next__" ⟨[a],[]⟩:=by
 unfold argsOk;rw [signature?_of (id:="set_iterator.__next__") (n:=['_','_','t','x','e','n','_','_']) (o:=['r','o','t','a','r','e','t','i','_','t','e','s']) (by kernel_rfl) EU];kernel_rfl
theorem qR:entryFor table "set.__iter__"=some Builtin.«frozenset.__iter__»:=
 entryFor_alias (id':="frozenset.__iter__") (by kernel_rfl) rfl (by decide +kernel) (by kernel_rfl)
noncomputable abbrev wK (first:Value) (i:Nat) (s:Value) (n ep:Nat):Obj:=⟨.type "set_iterator",none,.fields #[first,rawInt i,s,rawInt n,rawInt ep],#[]⟩
inductive x3 (W:Wd) (a:Addr) (es:Array (Int×Value)) (ep:Nat) (t:SetTable) (L:List (Int×Value)) (i slot:Nat):Prop
 | text (hb:W.w.params.followText "set-order"=true) (hL:L=(pickOrder (W.w.params.setOrder a ep) es).toList)
 | led (hb:W.w.params.followText "set-order"=false) (hp:(!t.plain&&decide (es.size > 1))=false) (hl:t.led=true) (hL:L=es.toList) (hs:slot=if i=0 then 0 else t.place.getD (i - 1) 0+1)
inductive BU (W:Wd) (h:Heap) (I a:Addr) (es:Array (Int×Value)) (ep:Nat) (t:SetTable) (L:List (Int×Value)) (i:Nat):Value→Prop
 | tab (slot:Nat) (c:x3 W a es ep t L i slot):BU W h I a es ep t L i (rawInt slot)
 | tup (hb:W.w.params.followText "set-order"=false) (P:Addr) (places:List Nat) (n:Nat) (hPI:P≠I) (gP:h.get? P=some (seqObj "tuple" (places.map fun i:Nat=>rawInt i).toArray n)) (hpb:∀ p∈places,p < es.size) (hLL:L=places.map fun p=>es.getD p (0,.none)):BU W h I a es ep t L i (.ref P)
inductive jE (W:Wd) (h:Heap) (I a:Addr) (es:Array (Int×Value)) (ep:Nat) (t:SetTable) (L:List (Int×Value)) (i:Nat):Prop
 | mk (first:Value) (g:h.get? I=some (wK first i (.ref a) es.size ep)) (r:BU W h I a es ep t L i first)
section
variable {W:Wd} {A:Around} {E:Value→Shared→Prop} {s:Shared} {I a:Addr} {es:Array (Int×Value)} {ep:Nat} {t:SetTable} {xs:List Int} {L:List (Int×Value)} {i:Nat}
theorem BU.keep {h h':Heap} (x:BU W h I a es ep t L i v) (k:∀ b n os,h.get? b=some (seqObj "tuple" os n)→h'.get? b=some (seqObj "tuple" os n)):BU W h' I a es ep t L i v:=by
 induction x with
 | tab slot c=>exact .tab slot c
 | tup hb P places n hPI gP hpb hLL=>exact .tup hb P places n hPI (k _ _ _ gP) hpb hLL
theorem jE.keep {h h':Heap} (x:jE W h I a es ep t L i) (k:∀ b o,h.get? b=some o→h'.get? b=some o):jE W h' I a es ep t L i:=by
 obtain ⟨first,g,r⟩:=x
 exact ⟨first,k _ _ g,r.keep fun b n os=>k b _⟩
theorem jE.keep2 {h h':Heap} {S:Addr} (hS:S≠I) (hSP:∀ o,h.get? S=some o→o.cls≠.type "tuple") (x:jE W h I a es ep t L i) (k:∀ b o,b≠S→h.get? b=some o→h'.get? b=some o):jE W h' I a es ep t L i:=by
 obtain ⟨first,g,r⟩:=x
 exact ⟨first,k _ _ (Ne.symm hS) g,r.keep fun b n os e=>k b _ (fun c=>hSP _ (c▸e) rfl) e⟩
theorem C8 {p:Array Nat} (hr:p.toList.Pairwise (· < ·)) (hi:i≤p.size):SetTable.below p (if i=0 then 0 else p.getD (i - 1) 0+1)=i:=by
 refine (se p _ hr).same ?_
 induction i with
 | zero=>exact ⟨hi,(fun _ h=>nomatch h),fun _ _=>ck _⟩
 | succ m=>
  rw [av (Nat.succ_ne_zero m),Nat.add_sub_cancel,iP hi]
  exact ⟨hi,zR hr hi (Nat.lt_succ_self _),(pZ hr hi).2⟩
theorem zj {slot:Nat} {Q:Option (Value×Nat)→Shared→Prop} (ha:s.heap.get? a=some (cN es ep t)) (d:cS W es t xs) (hm:x3 W a es ep t L i slot) (hi:i≤es.size)
  (h:∀ k,x3 W a es ep t L (i+1) k→Q ((L[i]?).map fun e=>(e.2,k)) s):wpAny (model W.prog W.w) A (setNext a slot i ep) Q E s:=by
 unfold setNext
 refine ac (bw ha d ?_)
 unfold setsByText
 refine ac (ac (wpAny_askSetting (al ?_)))
 dsimp only
 induction hm with
 | text hb hL=>
  refine lm (show (model W.prog W.w).w.params.followText "set-order"=true from hb) (bD (j5 _) (ac ?_))
  unfold setWalk
  refine ac (bw ha d ?_)
  unfold setsByText
  refine ac (ac (wpAny_askSetting (al ?_)))
  refine lm (show (model W.prog W.w).w.params.followText "set-order"=true from hb) ?_
  refine ac (wpAny_askSetting (al ?_))
  have:=h slot (.text hb hL)
  rw [hL,Array.getElem?_toList] at this
  exact al this
 | led hb hp hl hL hsl=>
  refine bD (show ¬ (model W.prog W.w).w.params.followText "set-order"=true from fun e=>bO (hb.symm.trans e)) ?_
  show wpAny _ _ (if (!t.plain&&decide (es.size > 1))=true then _ else _) _ _ s
  refine bD (by refine Eq.symm (hp)▸?_;exact bO) (ac ?_)
  show wpAny _ _ (if (!t.led&&!es.isEmpty)=true then unsupported "set:maker-not-led" else pure ()) _ _ s
  refine bD (by refine Eq.symm (hl)▸?_;exact bO) (al ?_)
  rw [hsl,C8 d.tab.rise (by refine Eq.symm (d.tab.size)▸?_;exact hi)]
  have:=h (t.place.getD i 0+1) (.led hb hp hl hL (av (Nat.succ_ne_zero i)).symm)
  refine al ?_
  rw [hL,Array.getElem?_toList] at this
  by_cases hlt:i < es.size
  ·have hpl:i < t.place.size:=by refine Eq.symm (d.tab.size)▸?_;exact hlt
   rw [iP hpl] at this
   rw [Array.getElem?_eq_getElem hlt] at this ⊢
   rw [Array.getElem?_eq_getElem hpl]
   exact this
  ·rw [Array.getElem?_eq_none (Nat.not_lt.mp hlt)] at this ⊢
   exact this
theorem B8 {first:Value} {m:Nat} (g:s.heap.get? I=some (wK first i v n m)):s.TypeIs (.ref I) "set_iterator":=⟨_,g,rfl⟩
theorem kj {h:Heap} {first:Value} {m:Nat} {x:Value} (g:h.get? I=some (wK first i v n m)) :
  (h.update I (Obj.mapFields (·.setIfInBounds k x))).get? I=some ⟨.type "set_iterator",none,.fields ((#[first,rawInt i,v,rawInt n,rawInt m]:Array Value).setIfInBounds k x),#[]⟩:=
 Heap.get?_update_self _ g rfl
theorem Hg (hh:A.handled=none) (ha:s.heap.get? a=some (cN es ep t)) (d:cS W es t xs) (it:jE W s.heap I a es ep t L i) (hL:L.length=es.size) (hi:i≤es.size) (hIa:a≠I) {Q:Option Value→Shared→Prop}
  (h1:∀ e h',L[i]? = some e→jE W h' I a es ep t L (i+1)→Heap.SameBut I s.heap h'→Q (some e.2) { s with heap:=h' })
  (h2:∀ h',L[i]? = none→(∀ b o,b≠I→s.heap.get? b=some o→h'.get? b=some o)→Q none { s with heap:=h' }):wpAny (model W.prog W.w) A (pyNext (.ref I)) Q E s:=by
 obtain ⟨first,g,hm⟩:=it
 have hT:=B8 g
 unfold pyNext
 refine ac (wpAny_attempt (wpAny_callSpecial?_slot (name:=Str.ofString "__next__") hT iR (eR iR hT s0 ?_ (vO _))))
 refine ac (m:=slotArgs "__next__" 0 _) (al ?_)
 refine ac (wpAny_fieldsOf g rfl ?_)
 show wpAny _ _ (setEntries a >>= _) _ _ s
 refine ac (wpAny_setEntries_of ha rfl d.tab.fits ?_)
 refine bD (by rw [bne_self_eq_false];exact bO) ?_
 induction hm with
 | tab slot c=>
  show wpAny _ _ (setNext a slot i ep >>= _) _ _ s
  refine ac (zj ha d c hi fun k' hk'=>?_)
  induction hx:L[i]? with
  | some e=>
   show wpAny _ _ (setField (.ref I) 0 (rawInt k') >>= fun _=>setField (.ref I) 1 (rawInt ((i:Int)+1)) >>= fun _=>ret e.2) _ _ s
   refine ac (wpAny_setField g rfl (Nat.zero_lt_succ _) ?_)
   refine ac (wpAny_setField (kj g) rfl (Nat.succ_lt_succ (Nat.zero_lt_succ _)) ?_)
   exact al ⟨_,rfl,al (h1 e _ hx ⟨rawInt k',Heap.get?_update_self _ (kj g) rfl,.tab k' hk'⟩ ((fZ ..).trans (fZ ..)))⟩
  | none=>
   show wpAny _ _ (setField (.ref I) 2 .none >>= fun _=>newExc (.type "StopIteration") [] >>= fun e=>raiseNew e) _ _ s
   exact ac (wpAny_setField g rfl (Nat.succ_lt_succ (Nat.succ_lt_succ (Nat.zero_lt_succ _))) (m8 hh fun h' k=>h2 _ hx fun b o hb e=>k b o ((ik _ _ (Ne.symm hb)).trans e)))
 | tup hb P places n hPI gP hpb hLL=>
  refine ac ?_
  refine ac (wpAny_load gP (al ?_))
  dsimp only
  have hsz:places.length=es.size:=by rw [← hL,hLL,ba]
  have eL:L[i]? = (places[i]?).map fun p=>es.getD p (0,.none):=by rw [hLL,dO]
  simp only [Int.toNat_natCast,List.getElem?_toArray,dO]
  induction hx:places[i]? with
  | some p=>
   rw [hx] at eL
   have hp:p < es.size:=hpb p (List.mem_of_getElem? hx)
   have hg:es.getD p (0,.none)=es[p]:=iP hp _
   refine ac ?_
   show wpAny _ _ (setNextDrawn a (p:Int).toNat (ep:Int).toNat) _ _ s
   simp only [Int.toNat_natCast]
   unfold setNextDrawn
   refine ac (bw ha d ?_)
   dsimp only
   refine bD (j5 _) ?_
   refine Eq.symm (Array.getElem?_eq_getElem hp)▸?_
   refine al ?_
   refine ac (wpAny_setField g rfl (by simp) ?_)
   refine al ⟨_,rfl,al ?_⟩
   have:=h1 (es.getD p (0,.none)) _ eL ⟨.ref P,kj (k:=1) (x:=rawInt ((i:Int)+1)) g,.tup hb P places n hPI ((ik _ _ (Ne.symm hPI)).trans gP) hpb hLL⟩ (fZ ..)
   rw [hg] at this
   exact this
  | none=>
   rw [hx] at eL
   show wpAny _ _ (setField (.ref I) 0 (rawInt 0) >>= fun _=>setField (.ref I) 2 .none >>= fun _=>newExc (.type "StopIteration") [] >>= fun e=>raiseNew e) _ _ s
   refine ac (wpAny_setField g rfl (by simp) ?_)
   refine ac (wpAny_setField (kj g) rfl (by simp) ?_)
   refine zq (show A.in1.handled=none from hh) fun h' e hx' hT'=>?_
   refine ac (wpAny_isInstance (T:="StopIteration") (b:=true) hT' isSubtype_stop ?_)
   exact al (h2 _ eL fun b o hb e=>hx' b o ((ik _ _ (Ne.symm hb)).trans ((ik _ _ (Ne.symm hb)).trans e)))
end
end
section
set_option backward.match.sparseCases true
theorem Ds {prog:Program} {w:World} {r:Addr} {Q:Bool→Shared→Prop} (hT:s.TypeIs (.ref r) "set") (h:Q false s):wpAny (model prog w) A (Builtin.List.listLengthHint (.ref r)) Q E s:=by
 unfold Builtin.List.listLengthHint
 refine ac (wpAny_specialOf hT PySem.F.slot_set_len.lookup ?_)
 generalize hid:("set.__len__":String)=id0
 wp_delta
 rw [show splitId id0=some ("set","__len__") from by subst hid;decide +kernel]
 subst hid
 refine ac (wpAny_isInstance (T:="set") (b:=true) hT uJ ?_)
 refine wpAny_ite_split (fun hab=>absurd hab (by decide)) (fun _=>?_)
 refine wpAny_ite_split (fun _=>?_) (fun hab=>absurd (by decide +kernel) hab)
 refine ac (wpAny_typeOf hT ?_)
 exact al h
section
variable {W:Wd} {F:Addr→Prop} {A:Around} {E:Value→Shared→Prop} {s:Shared}
structure DR (W:Wd) (s'0:Shared) (S I:Addr) (vs:List Value) (St:Nat→Shared→Prop):Prop where
 keep:∀ i s,St i s→(∀ b o,s'0.heap.get? b=some o→s.heap.get? b=some o)∧s.gens=s'0.gens∧s.os=s'0.os
 upd:∀ i s h' tk,St i s→Heap.SameBut S s.heap h'→(∃ xs n,h'.get? S=some (seqObj "list" xs n))→St i { s with heap:=h',toks:=tk }
 next:∀ i s (A:Around) (E:Value→Shared→Prop),A.handled=none→i≤vs.length→St i s→wpAny (model W.prog W.w) A (pyNext (.ref I)) (fun r s'=>(∀ o,s.heap.get? S=some o→s'.heap.get? S=some o)∧(match vs[i]? with
  | some v=>r=some v∧St (i+1) s'
  | none=>r=none∧(∀ b o,s'0.heap.get? b=some o→s'.heap.get? b=some o)∧s'.gens=s'0.gens∧s'.os=s'0.os)) E s
theorem tL {R:Result→Shared→Prop} {s'0:Shared} {S I:Addr} {St:Nat→Shared→Prop} {res:Value} (hA:A.handled=none) (K:DR W s'0 S I vs St) (hz:vs.length≤SZ)
  (fin:∀ s' n,(∀ b o,s'0.heap.get? b=some o→s'.heap.get? b=some o)→s'.gens=s'0.gens→s'.os=s'0.os→s'.heap.get? S=some (seqObj "list" vs.toArray n)→R (.ok (.ret res)) s') :
  ∀ (k i:Nat) (s:Shared) (n:Nat),vs.length - i=k→i≤vs.length→St i s→s.heap.get? S=some (seqObj "list" (vs.take i).toArray n)→
   codeAny (model W.prog W.w) A (.builtin "list.extend.loop" ⟨[.ref S,.ref I,res],[]⟩) R s:=by
 have hSZ:SZ≤sizeLine:=gG
 intro k
 induction k with
 | zero=>
  intro i s n hk hi st g
  refine codeAny_builtin PySem.F.entry_extend_loop ?_
  rw [Around.under_plainId PySem.F.plain_extend_loop _]
  show wpAny _ A.in1 (pyNext (.ref I) >>= _) _ _ s
  refine ac (ax (K.next i s A.in1 _ hA hi st) (fun r s' z=>?_) am)
  obtain ⟨z1,z2⟩:=z
  rw [List.getElem?_eq_none (Nat.le_of_sub_eq_zero hk)] at z2
  obtain ⟨rfl,k1,k2,k3⟩:=z2
  have:=z1 _ g
  rw [List.take_of_length_le (Nat.le_of_sub_eq_zero hk)] at this
  exact al (fin s' n k1 k2 k3 this)
 | succ k ih=>
  intro i s n hk hi st g
  have hlt:i < vs.length:=Nat.lt_of_sub_eq_succ hk
  refine codeAny_builtin PySem.F.entry_extend_loop ?_
  rw [Around.under_plainId PySem.F.plain_extend_loop _]
  show wpAny _ A.in1 (pyNext (.ref I) >>= _) _ _ s
  refine ac (ax (K.next i s A.in1 _ hA hi st) (fun r s' z=>?_) am)
  obtain ⟨z1,z2⟩:=z
  rw [cj hlt] at z2
  obtain ⟨rfl,st'⟩:=z2
  have g':=z1 _ g
  show wpAny _ A.in1 (updateSeq S (·.push vs[i]) >>= _) _ _ _
  have hsz:(vs.take i).toArray.size=i:=by rw [cO,List.length_take];exact Nat.min_eq_left hi
  obtain ⟨m,hg⟩:∃ m,(s'.heap.update S (Obj.mapSeq (·.push vs[i]))).get? S=some (seqObj "list" (vs.take (i+1)).toArray m):=by
   have:=get?_update_seq g' (·.push vs[i])
   rw [show ((vs.take i).toArray.push vs[i])=(vs.take (i+1)).toArray by rw [List.push_toArray,List.take_add_one,cj hlt];rfl] at this
   exact ⟨_,this⟩
  refine ac (wpAny_updateSeq g' rfl (al ⟨plainId_quiet PySem.F.plain_extend_loop _,ih (i+1) { s' with heap:=s'.heap.update S (Obj.mapSeq (·.push vs[i])) } m (sub_succ hk) hlt (K.upd _ s' _ s'.toks st' (fZ ..) ⟨_,_,hg⟩) hg⟩) (by rw [hsz];exact aH hi (aH hz hSZ)) (by show ((vs.take i).toArray.push vs[i]).size≤_;rw [Array.size_push,hsz];exact aH hlt (aH hz (Nat.le_succ_of_le hSZ))))
theorem H5 {R:Result→Shared→Prop} {T:String} {S r:Addr} {G:List Value→Prop} {res:Value} (hA:A.handled=none) (hz:∀ vs,G vs→vs.length≤SZ) (hSr:S≠r)
  (hT:s.TypeIs (.ref r) T) (hl:(Value.type T==Value.type "list")=false) (ht:(Value.type T==Value.type "tuple")=false)
  (hint:∀ (A:Around) (E:Value→Shared→Prop) (s:Shared) (Q:Bool→Shared→Prop),s.TypeIs (.ref r) T→Q false s→wpAny (model W.prog W.w) A (Builtin.List.listLengthHint (.ref r)) Q E s)
  (hS:s.heap.get? S=some (seqObj "list" #[] n)) (s'0:Shared)
  (hit:∀ (A:Around) (E:Value→Shared→Prop),A.handled=none→wpAny (model W.prog W.w) A (pyIter (.ref r)) (fun v s'=>∃ vs I St,G vs∧v=.ref I∧DR W s'0 S I vs St∧St 0 s'∧s'.heap.get? S=some (seqObj "list" #[] n)∧s'.TypeIs (.ref r) T) E s)
  (fin:∀ vs,G vs→∀ s' n,(∀ b o,s'0.heap.get? b=some o→s'.heap.get? b=some o)→s'.gens=s'0.gens→s'.os=s'0.os→s'.heap.get? S=some (seqObj "list" vs.toArray n)→R (.ok (.ret res)) s') :
  wpAny (model W.prog W.w) A.in1 (Builtin.List.listExtendWith (.ref S) (.ref r) res)
   (fun fin s'=>match fin with | .done f=>R (.ok f) s' | .again c'=>c'.quiet=true∧codeAny (model W.prog W.w) A c' R s') (fun e s'=>R (.error e) s') s:=by
 unfold Builtin.List.listExtendWith
 refine ac (wpAny_typeOf hT ?_)
 have h1:Builtin.List.listSameRef (.ref S) (.ref r)=false:=by simp [Builtin.List.listSameRef,hSr]
 simp only [h1,hl,ht,Bool.or_false,Bool.false_eq_true,if_false]
 refine ac (ax (hit A.in1 _ hA) (fun v s₁ z=>?_) am)
 obtain ⟨vs,I,St,hG,rfl,K,st,g,hT'⟩:=z
 refine ac (b5 (hint _ _ _ _ hT' ?_))
 refine wpAny_ite_split (fun _=>?_) (fun _=>al ⟨plainId_quiet PySem.F.plain_extend_loop _,tL hA K (hz vs hG) (fin vs hG) vs.length 0 s₁ n (by lia) (ck _) st (by simpa using g)⟩)
 refine ac (wpAny_rule ?_)
 refine ac ?_
 show wpAny _ _ (updateSeq S (·.push .none) >>= fun _=>updateSeq S (·.pop)) _ _ _
 refine ac (wpAny_updateSeq g rfl ?_)
 obtain ⟨m'2,g'2⟩:∃ m,(s₁.heap.update S (Obj.mapSeq (·.push Value.none))).get? S=some (seqObj "list" #[Value.none] m):=⟨_,get?_update_seq g (·.push Value.none)⟩
 obtain ⟨m'3,g'3⟩:∃ m,((s₁.heap.update S (Obj.mapSeq (·.push Value.none))).update S (Obj.mapSeq (·.pop))).get? S=some (seqObj "list" #[] m):=⟨_,get?_update_seq g'2 (·.pop)⟩
 refine wpAny_updateSeq (hz:=by seq_fits) g'2 rfl ?_
 exact al ⟨plainId_quiet PySem.F.plain_extend_loop _,tL hA K (hz vs hG) (fin vs hG) vs.length 0 _ m'3 (by lia) (ck _) (K.upd 0 s₁ _ s₁.toks st ((fZ ..).trans (fZ ..)) ⟨_,_,g'3⟩) g'3⟩
noncomputable def Fe (W:Wd) (F:Addr→Prop) (s:Shared) (xs:List T) (vs:List Value) (s':Shared):Prop:=
 (∀ b o,s.heap.get? b=some o→s'.heap.get? b=some o)∧s'.gens=s.gens∧s'.os=s.os∧bR W F s'.heap xs vs
theorem BR {d:Addr} {es:List DictEntry} (g:s.heap.get? d=some (aL es ep)) (hs:(d==sysModules)=false)
  (h:∀ h',h'=s.heap.push ⟨.type "dict_keyiterator",none,.fields #[.ref d,rawInt 0,rawInt es.length,rawInt ep],#[]⟩→h'.IsKeyIter s.heap.objs.size d 0 es.length ep→Q (.ref s.heap.objs.size) { s with heap:=h' }):wpAny (model W.prog W.w) A (pyIter (.ref d)) Q E s:=by
 have hT:=aA g
 refine wpAny_pyIter_slot hT PySem.F.slot_dict_iter (eR PySem.F.slot_dict_iter hT PySem.F.entry_dict_iter ?_ (PySem.F.args_dict_iter_1 _))
 unfold Builtin.«dict.__iter__»
 refine ac ?_
 unfold Builtin.Dict.dictSlotNone
 refine ac (wpAny_notOrdered_dict hT ?_)
 show wpAny _ _ (pure (Value.ref d)) _ _ s
 refine al ?_
 show wpAny _ _ (Builtin.Dict.showsAll d >>= _) _ _ s
 unfold Builtin.Dict.showsAll
 rw [av (by rw [hs];exact bO)]
 refine ac (al (ac (fY g rfl (ac (wpAny_dictEpoch g rfl ?_)))))
 refine ac (gy (al ⟨_,rfl,"dict_keyiterator",_,⟨_,dG _ rfl,rfl⟩,PySem.F.slot_dict_keyiterator_next.lookup,?_⟩))
 have e:es.toArray.size=es.length:=cO ..
 rw [e]
 exact h _ rfl ⟨_,dG _ rfl,rfl,by simp [rawInt]⟩
theorem yr:plainId "list.__iadd__"=true:=by decide +kernel
theorem qm {T':String} {r:Addr} {G:List Value→Prop} (hA:A.handled=none) (hz:∀ vs,G vs→vs.length≤SZ)
  (hT:s.TypeIs (.ref r) T') (hl:(Value.type T'==Value.type "list")=false) (ht:(Value.type T'==Value.type "tuple")=false)
  (hint:∀ (A:Around) (E:Value→Shared→Prop) (s:Shared) (Q:Bool→Shared→Prop),s.TypeIs (.ref r) T'→Q false s→wpAny (model W.prog W.w) A (Builtin.List.listLengthHint (.ref r)) Q E s)
  (hit:∀ (A:Around) (E:Value→Shared→Prop),A.handled=none→wpAny (model W.prog W.w) A (pyIter (.ref r)) (fun v s'=>∃ vs I St,G vs∧v=.ref I∧DR W s s.heap.objs.size I vs St∧St 0 s'∧s'.heap.get? s.heap.objs.size=some (seqObj "list" #[] 0)∧s'.TypeIs (.ref r) T') E { s with heap:=s.heap.push (seqObj "list" #[] 0) }) :
  wpAny (model W.prog W.w) A (collect (.ref r)) (fun vs s'=>G vs∧(∀ b o,s.heap.get? b=some o→s'.heap.get? b=some o)∧s'.gens=s.gens∧s'.os=s.os) E s:=by
 unfold collect
 refine ac (wpAny_runValue (codeAny_builtin entry_proto_collect' ?_))
 show wpAny _ _ (do again (.builtin "list.__iadd__" ⟨[← newList [],.ref r],[]⟩)) _ _ s
 refine ac (wpAny_newList (al ⟨Code.quiet_builtin _ (by decide +kernel),codeAny_builtin entry_list_iadd' ?_⟩))
 show wpAny _ _ (Builtin.List.listExtendWith (.ref s.heap.objs.size) (.ref r) (.ref s.heap.objs.size)) _ _ { s with heap:=s.heap.push (seqObj "list" #[] 0) }
 obtain ⟨o,ho,hc⟩:=id hT
 rw [Around.under_plainId yr _]
 refine H5 (R:=fun r s'=>match r with
  | .ok (.ret v)=>wpAny (model W.prog W.w) A (match v with
    | .ref a=>do
     let o ← load a
     match o.data with
     | .seq xs _=>pure xs.toList
     | _=>unsupported "internal:collect"
    | _=>unsupported "internal:collect") (fun vs s'=>G vs∧(∀ b o,s.heap.get? b=some o→s'.heap.get? b=some o)∧s'.gens=s.gens∧s'.os=s.os) E s'
  | .ok _=>False
  | .error e=>E e s') (s:={ s with heap:=s.heap.push (seqObj "list" #[] 0) }) (n:=0) hA hz (fun q=>Nat.lt_irrefl _ (q▸ef ho)) ⟨o,bU _ ho,hc⟩ hl ht hint (dG _ rfl) s hit fun vs hG s' n k e1 e2 g=>?_
 show wpAny (model W.prog W.w) A (do
   let o ← load s.heap.objs.size
   match o.data with
   | .seq xs _=>pure xs.toList
   | _=>unsupported "internal:collect") _ E s'
 refine ac (wpAny_load g ?_)
 exact al ⟨hG,k,e1,e2⟩
theorem cM.keys {h:Heap}:∀ {es:List DictEntry},cM W F h kvs es→bR W F h (kvs.map fun p=>cf p.1) (es.map (·.key)):=by
 induction kvs with
 | nil=>intro es r;rw [r.inv0];exact .nil
 | cons p kvs ih=>intro es r;obtain ⟨e,es,a,_,_,r2⟩:=cM.inv (k:=p.1) (t:=p.2) r;exact .cons a (ih r2)
theorem vg {d:Addr} {es:List DictEntry} (hA:A.handled=none) (g:s.heap.get? d=some (aL es ep)) (hs:(d==sysModules)=false) (r:cM W F s.heap kvs es) (hz:kvs.length≤SZ) :
  wpAny (model W.prog W.w) A (collect (.ref d)) (Fe W F s (kvs.map fun p=>cf p.1)) E s:=by
 have hlen:=r.length
 refine ax (qm (G:=fun vs=>vs=es.map (·.key)) hA (fun vs hv=>by rw [hv,ba];lia) (aA g) (by decide) (by decide) (fun A E s Q hT q=>kdl_hint_dict hT q) fun A E hA=>?_) (fun vs s' z=>by
  obtain ⟨rfl,k,e1,e2⟩:=z
  exact ⟨k,e1,e2,(r.mono (fun _ f=>f) fun a o _ e=>k a o e).keys⟩) am
 have hn:s.heap.get? s.heap.objs.size=none:=aS _
 refine BR (bU _ g) hs fun h' e it=>?_
 subst e
 have hI:(s.heap.push (seqObj "list" #[] 0)).objs.size≠s.heap.objs.size:=by rw [Heap.size_push];exact Nat.succ_ne_self _
 have hIn:s.heap.get? (s.heap.push (seqObj "list" #[] 0)).objs.size=none:=by
  induction q:s.heap.get? (s.heap.push (seqObj "list" #[] 0)).objs.size with
  | none=>rfl
  | some o=>have:=ef q;rw [Heap.size_push] at this;exact absurd this (Nat.not_lt.mpr (Nat.le_succ _))
 refine ⟨_,(s.heap.push (seqObj "list" #[] 0)).objs.size,fun i s'=>(∀ b o,s.heap.get? b=some o→s'.heap.get? b=some o)∧s'.gens=s.gens∧s'.os=s.os∧s'.heap.IsKeyIter (s.heap.push (seqObj "list" #[] 0)).objs.size d i es.length ep,rfl,rfl,?_,⟨fun b o e=>bU _ (bU _ e),rfl,rfl,it⟩,bU _ (dG _ rfl),aA (ep:=ep) (es:=es) (bU _ (bU _ g))⟩
 have neS:∀ {b:Addr} {o:Obj},s.heap.get? b=some o→b≠s.heap.objs.size:=fun e q=>by rw [q,hn] at e;exact nn e
 have neI:∀ {b:Addr} {o:Obj},s.heap.get? b=some o→b≠(s.heap.push (seqObj "list" #[] 0)).objs.size:=fun e q=>by rw [q,hIn] at e;exact nn e
 refine ⟨fun i s' st=>⟨st.1,st.2.1,st.2.2.1⟩,fun i s' h' tk st hb hlist=>⟨fun b o e=>(hb.2 b (neS e)).trans (st.1 b o e),st.2.1,st.2.2.1,?_⟩,fun i s' A E hA hi st=>?_⟩
 ·obtain ⟨o,ho,x⟩:=st.2.2.2
  exact ⟨o,(hb.2 _ hI).trans ho,x⟩
 ·obtain ⟨k,e1,e2,it⟩:=st
  rw [dO]
  refine uj hA it (k _ _ g) (fun e hx h' it' hb=>?_) fun hx h' hb=>?_
  ·rw [hx];exact ⟨fun o e=>(hb.2 _ (Ne.symm hI)).trans e,rfl,fun b o e=>(hb.2 b (neI e)).trans (k b o e),e1,e2,it'⟩
  ·rw [hx];exact ⟨fun o e=>hb _ o (Ne.symm hI) e,rfl,fun b o e=>hb b o (neI e) (k b o e),e1,e2⟩
theorem Bz (es:Array (Int×Value)):(List.range es.size).map (fun p=>es.getD p (0,.none))=es.toList:=by
 refine List.ext_getElem (by rw [ba,ei,eX]) fun i h1 h2=>?_
 rw [List.getElem_map,List.getElem_range,iP h2]
theorem FU {es:Array (Int×Value)} {t:SetTable} {xs:List Int} (g:s.heap.get? a=some (cN es ep t)) (d:cS W es t xs)
  (h:∀ I s' L,L.Perm es.toList→jE W s'.heap I a es ep t L 0→s.heap.get? I=none→(∀ b o,s.heap.get? b=some o→s'.heap.get? b=some o)→s'.gens=s.gens→s'.os=s.os→Q (.ref I) s'):wpAny (model W.prog W.w) A (pyIter (.ref a)) Q E s:=by
 have hT:s.TypeIs (.ref a) "set":=⟨_,g,rfl⟩
 refine wpAny_pyIter_slot hT PySem.F.slot_set_iter (eR PySem.F.slot_set_iter hT qR ?_ (PySem.F.args_set_iter_1 _))
 unfold Builtin.«frozenset.__iter__»
 refine ac (m:=Builtin.Frozenset.slot0 "__iter__" _) (al ?_)
 refine ac ?_
 unfold Builtin.Frozenset.sizeOf
 refine ac (wpAny_setEntries_of g rfl d.tab.fits (al ?_))
 have fin:∀ (first:Value) (s':Shared) (L:List (Int×Value)),L.Perm es.toList→s'.gens=s.gens→s'.os=s.os→(∀ b o,s.heap.get? b=some o→s'.heap.get? b=some o)→
   jE W (s'.heap.push (wK first 0 (.ref a) es.size ep)) s'.heap.objs.size a es ep t L 0→
   wpAny (model W.prog W.w) A.in1 (do
    let e ← setEpoch a
    let it ← newFields "set_iterator" [first,rawInt 0,.ref a,rawInt es.size,rawInt e]
    ret it) (fun fin s'=>∃ v,fin=Fin.done (Flow.ret v)∧∃ T' r,s'.TypeIs v T'∧typeLookup (Value.type T') "__next__"=pure (some r)∧Q v s') E s':=by
  intro first s' L hp e1 e2 k it
  refine ac (jm (k _ _ g) d ?_)
  refine ac ?_
  unfold newFields
  refine gy ?_ (by size_fits)
  refine al ⟨_,rfl,"set_iterator",_,⟨_,dG _ rfl,rfl⟩,iR.lookup,?_⟩
  refine h _ { s' with heap:=s'.heap.push (wK first 0 (.ref a) es.size ep) } L hp it ?_ (fun b o e=>bU _ (k b o e)) e1 e2
  induction q:s.heap.get? s'.heap.objs.size with
  | none=>rfl
  | some o=>exact absurd (ef (k _ _ q)) (Nat.lt_irrefl _)
 refine ac ?_
 unfold setDrawn
 refine ac (bw g d ?_)
 unfold setsByText
 refine ac (ac (wpAny_askSetting (al ?_)))
 dsimp only
 refine al ?_
 show wpAny _ _ (if (!W.w.params.followText "set-order"&&(!t.plain&&decide (es.size > 1)))=true then _ else _) _ _ s
 induction hb:W.w.params.followText "set-order" with
 | true=>
  refine bD bO (ac (al ?_))
  exact fin (rawInt 0) s _ (tG _ es) rfl rfl am ⟨rawInt 0,dG _ rfl,.tab 0 (.text hb rfl)⟩
 | false=>
  have hl:=d.led.resolve_left (by rw [hb];exact bO)
  induction hp:(!t.plain&&decide (es.size > 1)) with
  | false=>
   refine bD bO (ac (al ?_))
   exact fin (rawInt 0) s _ (.refl _) rfl rfl am ⟨rawInt 0,dG _ rfl,.tab 0 (.led hb hp hl rfl rfl)⟩
  | true=>
   refine lm rfl ?_
   refine ac (Gl es.size (List.range es.size) s _ (ei ..) fun places dr hpl=>?_)
   have hlen:places.length=es.size:=by rw [hpl.length_eq,ei]
   have hpb:∀ p∈places,p < es.size:=fun p hm=>List.mem_range.mp (hpl.mem_iff.mp hm)
   have few:=d.few
   refine ac (wpAny_newTuple ?_ (by rw [ba,hlen,sizeLine_eq];lia))
   refine fin (.ref s.heap.objs.size) { s with heap:=s.heap.push (seqObj "tuple" (places.map fun i:Nat=>rawInt i).toArray 0),drawn:=dr } (places.map fun p=>es.getD p (0,.none)) ?_ rfl rfl (fun _ _ e=>bU _ e)
    ⟨.ref s.heap.objs.size,dG _ rfl,.tup hb s.heap.objs.size places 0 ?_ (bU _ (dG _ rfl)) hpb rfl⟩
   ·refine (hpl.map _).trans ?_
    exact .of_eq (Bz es)
   ·show s.heap.objs.size≠(s.heap.push _).objs.size
    rw [Heap.size_push];exact Nat.ne_of_lt (Nat.lt_succ_self _)
theorem Ar {h:Heap}:∀ {L:List (Int×Value)},(∀ e∈L,∃ k u,e=(hashInt k,Value.int k u))→bR W F h ((L.map uN).map .int) (L.map (·.2))
 | [],_=>.nil
 | e::L,hh=>by
  obtain ⟨k,u,rfl⟩:=hh e (by simp)
  exact .cons (.int k u) (Ar fun e he=>hh e (List.mem_cons_of_mem _ he))
theorem wY {xs:List Int} (hA:A.handled=none) (x:lW W s.heap a xs):wpAny (model W.prog W.w) A (collect (.ref a)) (fun vs s'=>∃ ks:List Int,ks.Perm xs∧Fe W F s (ks.map .int) vs s') E s:=by
 obtain ⟨es,ep,t,g,d,hx⟩:=x
 have hSZ:SZ=1048576:=rfl
 have few:=d.few
 refine ax (qm (G:=fun vs=>∃ L:List (Int×Value),L.Perm es.toList∧vs=L.map (·.2)) hA (fun vs ⟨L,hp,hv⟩=>by rw [hv,ba,hp.length_eq,eX];lia) (T':="set") ⟨_,g,rfl⟩ (by decide) (by decide) (fun A E s Q hT q=>Ds hT q) fun A E hA=>?_) (fun vs s' z=>?_) am
 ·have hn:s.heap.get? s.heap.objs.size=none:=aS _
  refine FU (bU _ g) d fun I s' L hp it hI k e1 e2=>?_
  have kp:∀ b o,s.heap.get? b=some o→s'.heap.get? b=some o:=fun b o e=>k b o (bU _ e)
  have gS:s'.heap.get? s.heap.objs.size=some (seqObj "list" #[] 0):=k _ _ (dG _ rfl)
  have hIS:I≠s.heap.objs.size:=fun q=>by
   have:(s.heap.push (seqObj "list" #[] 0)).get? s.heap.objs.size=some (seqObj "list" #[] 0):=dG _ rfl
   rw [← q] at this
   rw [show (s.heap.push (seqObj "list" #[] 0)).get? I=none from hI] at this
   exact nn this
  have hIn:s.heap.get? I=none:=by
   induction q:s.heap.get? I with
   | none=>rfl
   | some o=>
    have:=bU (seqObj "list" #[] 0) q
    rw [show (s.heap.push (seqObj "list" #[] 0)).get? I=none from hI] at this
    exact nn this
  have neS:∀ {b:Addr} {o:Obj},s.heap.get? b=some o→b≠s.heap.objs.size:=fun e q=>by rw [q,hn] at e;exact nn e
  have neI:∀ {b:Addr} {o:Obj},s.heap.get? b=some o→b≠I:=fun e q=>by rw [q,hIn] at e;exact nn e
  have hL:L.length=es.size:=by rw [hp.length_eq,eX]
  refine ⟨L.map (·.2),I,fun i s'=>(∀ b o,s.heap.get? b=some o→s'.heap.get? b=some o)∧s'.gens=s.gens∧s'.os=s.os∧jE W s'.heap I a es ep t L i∧(∃ o,s'.heap.get? s.heap.objs.size=some o∧o.cls=.type "list"),⟨L,hp,rfl⟩,rfl,?_,⟨kp,e1,e2,it,_,gS,rfl⟩,gS,⟨_,kp _ _ g,rfl⟩⟩
  refine ⟨fun i s' st=>⟨st.1,st.2.1,st.2.2.1⟩,fun i s' h' tk st hb hlist=>⟨fun b o e=>(hb.2 b (neS e)).trans (st.1 b o e),st.2.1,st.2.2.1,?_,?_⟩,fun i s' A E hA hi st=>?_⟩
  ·obtain ⟨o,go,hc⟩:=st.2.2.2.2
   exact st.2.2.2.1.keep2 (S:=s.heap.objs.size) (Ne.symm hIS) (fun o' e q=>by rw [go] at e;obtain rfl:=az e;rw [hc] at q;simp at q) fun b o hb' e=>(hb.2 b hb').trans e
  ·obtain ⟨ys,n,hy⟩:=hlist
   exact ⟨_,hy,rfl⟩
  ·obtain ⟨k,e1,e2,it,o,go,hc⟩:=st
   rw [ba] at hi
   rw [dO]
   refine Hg hA (k _ _ g) d it hL (by lia) (neI g) (fun e h' hx it' hb=>?_) fun h' hx hb=>?_
   ·rw [hx]
    exact ⟨fun o e=>(hb.2 _ (Ne.symm hIS)).trans e,rfl,fun b o e=>(hb.2 b (neI e)).trans (k b o e),e1,e2,it',o,(hb.2 _ (Ne.symm hIS)).trans go,hc⟩
   ·rw [hx]
    exact ⟨fun o e=>hb _ o (Ne.symm hIS) e,rfl,fun b o e=>hb b o (neI e) (k b o e),e1,e2⟩
 ·obtain ⟨⟨L,hp,rfl⟩,k,e1,e2⟩:=z
  refine ⟨L.map uN,(hp.map _).trans d.perm,k,e1,e2,Ar fun e he=>d.els e (hp.mem_iff.mp he)⟩
end
end
section
theorem gQ:∀ {l:List Int},l.Nodup→(canon l).Perm l
 | [],_=>.refl _
 | a::l,h=>by
  obtain ⟨h1,h2⟩:=cP.mp h
  unfold canon
  exact (um fun m=>h1 (aN.mp m)).trans ((gQ h2).cons a)
set_option tactic.hygienic true in
theorem nr {xs ys:List T} (e:iv xs=some ys):ys.length=xs.length:=by
 have two:∀ {sh:Bool} {zs:List T},kL sh xs=some zs→zs.length=xs.length:=by
  intro sh zs e
  unfold kL at e
  obtain ⟨ps,hps,e⟩:=kE.mp e
  split at e
  ·obtain rfl:=az e;rw [zM hps,ba,ba];exact (bI ps).length_eq
  ·exact nn e
 unfold iv at e
 split at e
 ·obtain rfl:=az e;rfl
 ·split at e
  ·rename_i ks hk
   split at e
   ·rename_i hc
    obtain rfl:=az e
    rw [ba,(gQ hc.2).length_eq];exact fA hk
   ·exact nn e
  ·split at e
   ·rename_i zs hz
    obtain rfl:=az e
    exact two hz
   ·exact two e
theorem g6 (ks:List Int):cZ (ks.map .int)=some ks:=by
 induction ks with
 | nil=>rfl
 | cons k ks ih=>show (cZ (ks.map .int)).map (k::·)=_;rw [ih];rfl
theorem om {l:List Int} (nd:l.Nodup) (h:l.length < 60):iv (l.map T.int)=some ((canon l).map .int):=by
 unfold iv
 by_cases h1:(l.map T.int).length≤1
 ·rw [au h1]
  rw [ba] at h1
  rcases Jp h1 with e | ⟨a,e⟩<;>rw [e]<;>rfl
 ·rw [av h1,g6]
  exact au ⟨h,nd⟩
theorem iX {ks xs:List Int} (hx:xs.Pairwise (· < ·)) (hp:ks.Perm xs) (hl:xs.length < 60):iv (ks.map .int)=some (xs.map .int):=by
 rw [← show canon ks=xs from bV (aJ ks) hx fun k=>aN.trans hp.mem_iff]
 exact om (hp.nodup_iff.mpr (hx.imp fun h e=>absurd (e▸h) (Int.lt_irrefl _))) (hp.length_eq▸hl)
section
variable {W:Wd} {F:Addr→Prop} {A:Around} {E:Value→Shared→Prop} {s:Shared}
theorem nL {ys:List T} (hA:A.handled=none) (hu:A.units+100 < cLine) (hF:∀ a,F a→∃ o,s.heap.get? a=some o) (hy:ys.length≤SZ)
  (hc:∀ (A:Around) (E:Value→Shared→Prop),A.handled=none→wpAny (model W.prog W.w) A (collect v) (fun vs s'=>∃ xs,iv xs=some ys∧Fe W F s xs vs s') E s) :
  wpAny (model W.prog W.w) A (call (.builtin "sorted") [v]) (fG W F s (.list ys)) E s:=by
 refine Calls.call_function_entry kind_sorted plain_sorted entry_sorted (args_sorted1 _) ?_
 unfold Builtin.«sorted»
 refine ac (m:=checkCount "sorted" 1 1 _) (al ?_)
 refine ac (ax (hc A.in1 _ hA) (fun vs s₁ z=>?_) am)
 obtain ⟨xs,e,k,e1,e2,r⟩:=z
 refine ac (wpAny_newList ?_ ?_)
 ·have hn:s.heap.get? s₁.heap.objs.size=none:=by
   induction q:s.heap.get? s₁.heap.objs.size with
   | none=>rfl
   | some o=>exact absurd (ef (k _ _ q)) (Nat.lt_irrefl _)
  have hFn:¬ F s₁.heap.objs.size:=fun f=>by obtain ⟨o,q⟩:=hF _ f;rw [hn] at q;exact nn q
  have g:(s₁.heap.push (seqObj "list" vs.toArray 0)).get? s₁.heap.objs.size=some (seqObj "list" vs.toArray 0):=dG _ rfl
  refine ac (b5 (eR slot_list_sort ⟨_,g,rfl⟩ entry_list_sort (GV (s:={ s₁ with heap:=s₁.heap.push (seqObj "list" vs.toArray 0) }) ?_ e g hFn (r.mono (fun _ f=>f) fun a o _ e=>bU _ e) fun h' out n k' g' r'=>⟨_,rfl,?_⟩) (args_list_sort _)))
  ·show A.units+1+1+20 < cLine;lia
  ·refine al ⟨_,rfl,?_⟩
   have kk:∀ b o,s.heap.get? b=some o→h'.get? b=some o:=fun b o e=>k' b o (fun q=>by rw [q,hn] at e;exact nn e) (bU _ (k b o e))
   exact ⟨fun c=>F c∨c∈[s₁.heap.objs.size],b9.add (as:=[s₁.heap.objs.size]) ⟨e1,e2,kk,fun _ f=>f,fun _=>.inl⟩ (fun c hc=>by rw [aV.mp hc];exact hn) (fun c hc=>by rw [aV.mp hc];exact ⟨_,g'⟩),
    .list (.inr (aV.mpr rfl)) g' hy (r'.mono (fun _=>.inl) fun _ _ _ e=>e)⟩
 ·have:=nr e
  have hl:=r.length
  have:=gG
  lia
theorem Bo {a t:T} (hA:A.handled=none) (hu:A.units+100 < cLine) (hF:∀ a,F a→∃ o,s.heap.get? a=some o) (x:dY W F s.heap a v) (e:bi .sorted a=some t):wpAny (model W.prog W.w) A (call (.builtin "sorted") [v]) (fG W F s t) E s:=by
 have hSZ:SZ=1048576:=rfl
 refine cps fun GG kk=>?_
 cases a with
 | set xs=>
   refine kk (ifs e fun hl z=>?_)
   rw [z]
   obtain ⟨a,rfl,_,hS⟩:=x.set_inv
   have hx:xs.Pairwise (· < ·):=by obtain ⟨_,_,_,_,_,h⟩:=hS;exact h
   refine nL hA hu hF (by rw [ba];lia) fun A E hA=>ax (wY (F:=F) hA hS) (fun vs s' z=>?_) am
   obtain ⟨ks,hp,c⟩:=z
   exact ⟨ks.map .int,iX hx hp hl,c⟩
 | dict kvs=>
  refine kk (eT e fun ys hy z=>?_)
  rw [z]
  obtain ⟨es,d,ep,rfl,g,l,n,hs,r⟩:=x.dict_inv
  refine nL hA hu hF ?_ fun A E hA=>ax (vg hA g hs r l) (fun vs s' z=>⟨_,hy,z⟩) am
  have:=nr hy
  rw [ba] at this;lia
 | list xs=>
  refine kk (eT e fun ys hy z=>?_)
  rw [z]
  obtain ⟨vs,l,n,rfl,g,hl,r⟩:=x.list_inv
  have hlen:=nr hy
  have hrl:=r.length
  have:=gG
  refine nL hA hu hF (by lia) fun A E hA=>?_
  refine collect_list (pA g) ⟨xs,hy,fun b o e=>?_,rfl,rfl,r.mono (fun _ f=>f) fun b o _ e=>?_⟩ (by lia)
  all_goals exact (ik _ _ (Ne.symm (Nat.ne_of_lt (ef e)))).trans (bU _ e)
 | _=>exact nn e
end
end
section
structure sL (n:Nat) (A:Around):Prop where
 handled:A.handled=none
 depth:A.depth+2*n≤900
 units:A.units+20*n≤9000
theorem sL.u (h:sL n A):A.units+100 < cLine:=by
 have:=h.units;have:cLine=9900:=rfl;lia
noncomputable def lf:Nat→Nat
 | 0=>0 | 1=>3 | 2=>5 | 3=>7 | 4=>9 | 5=>11 | 6=>14 | 7=>16 | 8=>18 | 9=>20 | 10=>22 | 11=>24 | 12=>26 | 13=>28 | _=>1000
structure IX (W:Wd) (c:Nat):Prop where
 cd:∃ cd,clsIn W.K (W.ca c)=some cd∧cd.hasDict=true
 ga:findIn W.K (.ref (W.ca c)) "__getattribute__"=some (some (.builtin "object.__getattribute__"))
 gat:findIn W.K (.ref (W.ca c)) "__getattr__"=some none
 sa:findIn W.K (.ref (W.ca c)) "__setattr__"=some (some (.builtin "object.__setattr__"))
 po:plainOver W.K (W.ca c)=true
 mks:makesIn W.K (W.ca c)=true
 ini:findIn W.K (.ref (W.ca c)) "__init__"=some (some (.ref (W.fa (lf c))))
 ift:typeIn W.K (.ref (W.fa (lf c)))=some (.type "function")
 cl:findIn W.K (.ref (W.ca c)) "__class__"=some (some (.builtin "object.__class__"))
 ob:mroIn W.K (W.ca c) (.type "object")=some true
 ne:(Value.ref (W.ca c)==.ref (W.ca 14))=false
 nsub:subIn W.K (.ref (W.ca c)) (.ref (W.ca 14))=some false
 fld:∀ a x,a∈fields c→bp a x→findIn W.K (.ref (W.ca c)) x=some none
 meth:∀ m f x,mt c m=some f→bp m x→findIn W.K (.ref (W.ca c)) x=some (some (.ref (W.fa f)))∧typeIn W.K (.ref (W.fa f))=some (.type "function")
structure KX (W:Wd) (f:Nat) (p:Arguments) (b:List Stmt) (sc:Scope):Prop where
 obj:∃ o fd,W.h0.get? (W.fa f)=some o∧o.data=.func fd∧fd.params=p∧fd.body=.stmts b∧fd.scope=sc∧fd.closure=[]∧fd.globals=W.g∧fd.builtins=W.b∧W.h0.CodeRec fd.code fd.qualname∧
  ∃ r:Option (Array Value),bR W W.F0 W.h0 (match f0 f with | some d=>d.dflts | none=>[]) (r.getD #[]).toList∧(∀ (M:Model) (A:Around) (E:Value→Shared→Prop) (s:Shared) Q,(∀ b o,W.h0.get? b=some o→s.heap.get? b=some o)→Q r s→wpAny M A (seqItems? fd.defaults) Q E s)
structure gW (W:Wd):Prop where
 ns:W.h0.Ns W.g W.mg
 bs:W.h0.Ns W.b W.mb
 lim:W.h0.NoLimit
 glob:∀ x t,tb.glob x=some t→∃ v,W.mg x=some v∧VR W W.F0 W.h0 t v
 live0:∀ a,W.F0 a→∃ o,W.h0.get? a=some o
 sys:∃ o,W.h0.get? sysModules=some o
 K:W.K.In W.h0
 cls:∀ c,c < 14→IX W c
 gsp:specialIn W.K (.builtin "object.__class__") "__get__"=some (some (.builtin "getset_descriptor.__get__"))
 tks:takesIn W.K (.builtin "object.__class__")=some true
 t14:typeIn W.K (.ref (W.ca 14))=some (.type "type")
 c14:∃ cd,clsIn W.K (W.ca 14)=some cd
 fn:∀ x i r,tb.fn x=some (i,r)→W.mg x=some (.ref (W.fa i))
 cn:∀ x c i,tb.cls x=some (c,i)→W.mg x=some (.ref (W.ca c))∧(c < 14→i=lf c)
 fo:∀ f,f < 79→∃ p b sc,W.src f=some (p,b,sc)∧KX W f p b sc
 ci:∀ x c i,tb.cls x=some (c,i)→c < 15
 bn:∀ b:String,b∈["len","sorted","abs","all"]→W.mg (Str.ofString b)=none∧W.mb (Str.ofString b)=some (.builtin b)
 bt:∀ b:String,b∈["tuple","list","dict","set","int","range"]→W.mg (Str.ofString b)=none∧W.mb (Str.ofString b)=some (.type b)
 bi:W.mg "isinstance"=none∧W.mb "isinstance"=some (.builtin "isinstance")
structure dc (W:Wd) (sc:Scope) (env:PySem.Env) (G:List bY):Prop where
 kind:env.scope.kind=.function
 g:env.globals=W.g
 b:env.builtins=W.b
 loc:∀ x i,sc.names.lookup x=some .local→bp i x→env.kindOf x=some .local∧∃ e,first G i=some e∧e.pl=.loc env.locals x
 cel:∀ x i,sc.names.lookup x=some .cell→bp i x→env.kindOf x=some .cell∧∃ e c,first G i=some e∧e.pl=.cell c∧env.cells.lookup x=some c
 fre:∀ x i,sc.names.lookup x=some .free→bp i x→(env.kindOf x=some .cell∨env.kindOf x=some .free)∧∃ e c,first G i=some e∧e.pl=.cell c∧env.cells.lookup x=some c
 glo:∀ x,sc.names.lookup x=some .globalImplicit→env.kindOf x=some .globalImplicit
theorem qI {G':List bY} (sh:G'.map bY.sh=G.map bY.sh):∀ i e,first G i=some e→∃ e',first G' i=some e'∧e'.pl=e.pl:=by
 induction G generalizing G' with
 | nil=>intro i e h;exact nn h
 | cons a G ih=>
  induction G' with
  | nil=>exact nomatch sh
  | cons b G'=>
   rw [c6,c6] at sh
   injection sh with h1 h2
   intro i e h
   have hn:b.nm=a.nm:=aw (·.1) h1
   have hp:b.pl=a.pl:=aw (·.2.1) h1
   unfold first at h ⊢
   rw [List.find?_cons] at h ⊢
   rw [hn]
   induction q:a.nm==i with
   | true=>rw [q] at h;obtain rfl:=az h;exact ⟨b,rfl,hp⟩
   | false=>rw [q] at h;exact ih h2 i e h
theorem dc.sh {sc:Scope} {G':List bY} (S:dc W sc env G) (sh:G'.map bY.sh=G.map bY.sh):dc W sc env G' where
 kind:=S.kind
 g:=S.g
 b:=S.b
 loc:=fun x i h hi=>let ⟨k,e,f,p⟩:=S.loc x i h hi;let ⟨e',f',p'⟩:=qI sh i e f;⟨k,e',f',p'.trans p⟩
 cel:=fun x i h hi=>let ⟨k,e,c,f,p,l⟩:=S.cel x i h hi;let ⟨e',f',p'⟩:=qI sh i e f;⟨k,e',c,f',p'.trans p,l⟩
 fre:=fun x i h hi=>let ⟨k,e,c,f,p,l⟩:=S.fre x i h hi;let ⟨e',f',p'⟩:=qI sh i e f;⟨k,e',c,f',p'.trans p,l⟩
 glo:=S.glo
inductive oj (W:Wd) (F:Addr→Prop) (G:List bY) (ρ:Env) (s:Shared) (Q:T→Env→Prop) (v:Value) (s':Shared):Prop where
 | mk (x:T) (F':Addr→Prop) (ρ':Env) (h1:Q x ρ') (h2:St W F' G ρ' s') (h3:b2 F G ρ s F' ρ' s') (h4:VR W F' s'.heap x v)
inductive Jd (W:Wd) (F:Addr→Prop) (G:List bY) (ρ:Env) (s:Shared) (Q:T→Env→Prop) (v:Value) (s':Shared):Prop where
 | mk (x:T) (F':Addr→Prop) (ρ':Env) (h1:Q x ρ') (h2:St W F' G ρ' s') (h3:b2 F G ρ s F' ρ' s') (h4:dY W F' s'.heap x v)
inductive wf (W:Wd) (F:Addr→Prop) (G:List bY) (ρ:Env) (s:Shared) (Q:T→Env→Prop) (v:Value) (s':Shared):Prop where
 | mk (x:T) (F':Addr→Prop) (ρ':Env) (as:List Addr) (h1:Q x ρ') (h2:St W F' G ρ' s') (h3:b2 F G ρ s F' ρ' s') (h4:gu W F' s'.heap as x v) (h5:as.Nodup) (h6:(∀ a∈as,s.heap.get? a=none∧¬ F' a))
inductive zU (W:Wd) (k:Nat) (F:Addr→Prop) (G:List bY) (ρ:Env) (s:Shared) (Q:List T→Env→Prop) (v:List Value) (s':Shared):Prop where
 | mk (x:List T) (F':Addr→Prop) (ρ':Env) (h1:x.length=k) (h2:Q x ρ') (h3:St W F' G ρ' s') (h4:b2 F G ρ s F' ρ' s') (h5:bR W F' s'.heap x v)
inductive zn (W:Wd) (F:Addr→Prop) (G:List bY) (ρ:Env) (s:Shared) (Q:Bool→Env→Prop) (b:Bool) (s':Shared):Prop where
 | mk (F':Addr→Prop) (ρ':Env) (h1:Q b ρ') (h2:St W F' G ρ' s') (h3:b2 F G ρ s F' ρ' s')
noncomputable def cX (W:Wd) (C:aC) (n:Nat) (sc:Scope) (t:PySem.Env→Sem Value) (d:SE):Prop:=
 ∀ A env F G ρ s Q E,sL n A→dc W sc env G→St W F G ρ s→d C ρ Q→wpAny (model W.prog W.w) A (t env) (oj W F G ρ s Q) E s
noncomputable def Ge (W:Wd) (C:aC) (n:Nat) (sc:Scope) (t:PySem.Env→Sem Value) (o:jf):Prop:=
 ∀ A env F G ρ s Q E,sL n A→dc W sc env G→St W F G ρ s→o.run C ρ Q→wpAny (model W.prog W.w) A (t env) (Jd W F G ρ s Q) E s
noncomputable def sq (W:Wd) (C:aC) (n:Nat) (sc:Scope) (t:PySem.Env→Sem Value) (d:SE):Prop:=
 ∀ A env F G ρ s Q E,sL n A→dc W sc env G→St W F G ρ s→d C ρ Q→wpAny (model W.prog W.w) A (t env) (wf W F G ρ s Q) E s
noncomputable def xS (W:Wd) (C:aC) (n:Nat) (sc:Scope) (es:List Expr) (d:sw):Prop:=
 ∀ pos A env F G ρ s Q E,sL n A→dc W sc env G→St W F G ρ s→d C ρ Q→wpAny (model W.prog W.w) A (spliced (backTo pos (starEach es env))) (zU W es.length F G ρ s Q) E s
noncomputable def nv (W:Wd) (C:aC) (n:Nat) (sc:Scope) (t:PySem.Env→Sem Bool) (d:SB):Prop:=
 ∀ A env F G ρ s Q E,sL n A→dc W sc env G→St W F G ρ s→d C ρ Q→wpAny (model W.prog W.w) A (t env) (zn W F G ρ s Q) E s
section
variable {W:Wd} {F F'1 F'2:Addr→Prop} {G:List bY} {ρ ρ1 ρ2:Env} {s s₁ s₂ s'3:Shared}
theorem oj.q {Q:T→Env→Prop} (x:oj W F G ρ s Q v s₁):Jd W F G ρ s Q v s₁:=let ⟨t,F',ρ',h1,h2,h3,h4⟩:=x;⟨t,F',ρ',h1,h2,h3,h4.q⟩
theorem oj.after {Q:T→Env→Prop} (y:b2 F G ρ s F'1 ρ1 s₁) (x:oj W F'1 G ρ1 s₁ Q v s₂):oj W F G ρ s Q v s₂:=let ⟨t,F',ρ',h1,h2,h3,h4⟩:=x;⟨t,F',ρ',h1,h2,y.trans h3,h4⟩
theorem zn.after {Q:Bool→Env→Prop} {v:Bool} (y:b2 F G ρ s F'1 ρ1 s₁) (x:zn W F'1 G ρ1 s₁ Q v s₂):zn W F G ρ s Q v s₂:=let ⟨F',ρ',h1,h2,h3⟩:=x;⟨F',ρ',h1,h2,y.trans h3⟩
theorem zU.after {Q:List T→Env→Prop} {v:List Value} (y:b2 F G ρ s F'1 ρ1 s₁) (x:zU W k F'1 G ρ1 s₁ Q v s₂):zU W k F G ρ s Q v s₂:=let ⟨t,F',ρ',l,h1,h2,h3,h4⟩:=x;⟨t,F',ρ',l,h1,h2,y.trans h3,h4⟩
theorem fG.epost {t:T} {Q:T→Env→Prop} (y:b2 F G ρ s F'1 ρ1 s₁) (x:St W F'1 G ρ1 s₁) (r:fG W F'1 s₁ t v s₂) (q:Q t ρ1):oj W F G ρ s Q v s₂:=by
 obtain ⟨F',g,r⟩:=r
 obtain ⟨h1,h2⟩:=x.grow g
 exact ⟨t,F',ρ1,q,h1,y.trans h2,r⟩
theorem mc (x:St W F G ρ s) (y:b2 F G ρ s F'1 ρ1 s₁) (ha:s.heap.get? a=none):a∉bk G ρ1∧∀ e∈G,e.pl.addr≠a:=by
 refine ⟨fun m=>?_,fun e he z=>?_⟩
 ·obtain ⟨o,h⟩:=x.env.live (y.own a m);rw [ha] at h;exact nn h
 ·obtain ⟨o,h⟩:=x.env.liveP he;rw [z,ha] at h;exact nn h
theorem St.adopt (x'0:St W F G ρ s) (x:St W F'1 G ρ1 s₁) (y:b2 F G ρ s F'1 ρ1 s₁) (hn:∀ a∈as,s.heap.get? a=none) (hl:∀ a∈as,∃ o,s₁.heap.get? a=some o) :
  St W (fun a=>F'1 a∨a∈as) G ρ1 s₁∧b2 F G ρ s (fun a=>F'1 a∨a∈as) ρ1 s₁:=by
 have ne:=fun a ha=>mc x'0 y (hn a ha)
 refine ⟨⟨x.env.imp fun e _ sl _ r=>r.imp (fun _ q=>q) (fun _=>.inl) fun _ _ _ q=>q,x.world,fun a h=>.inl (x.base a h),fun a f=>f.elim (x.live a) (hl a),x.places,x.nodup,
  fun a m f=>f.elim (x.ownF a m) fun q=>(ne a q).1 m,x.ownP,fun e he f=>f.elim (x.plF e he) fun q=>(ne _ q).2 e he rfl,x.new,x.newP,x.fix⟩,
  ⟨⟨y.step.gens,y.step.os,fun a h=>.inl (y.step.mono a h),y.step.keep,fun a f=>f.elim (y.step.freshF a) fun q=>.inr (.inl (hn a q)),y.step.freshO,y.step.lives,y.step.sh⟩,y.pl,y.own⟩⟩
theorem wf.epost {Q:T→Env→Prop} (x'0:St W F G ρ s) (x:wf W F G ρ s Q v s₁):oj W F G ρ s Q v s₁:=by
 obtain ⟨t,F',ρ',as,q,st,y,r,nd,hn⟩:=x
 obtain ⟨h1,h2⟩:=x'0.adopt st y (fun a ha=>(hn a ha).1) fun a ha=>r.live ha
 exact ⟨t,_,ρ',q,h1,h2,r.freeze⟩
theorem mh.opost {t:T} {Q:T→Env→Prop} (y:b2 F G ρ s F'1 ρ1 s₁) (x:St W F'1 G ρ1 s₁) (r:mh W F'1 s₁ t v s₂) (q:Q t ρ1):wf W F G ρ s Q v s₂:=by
 obtain ⟨as,g,r,nd,hn⟩:=r
 obtain ⟨h1,h2⟩:=x.grow g
 exact ⟨t,F'1,ρ1,as,q,h1,y.trans h2,r,nd,fun a ha=>⟨y.step.lives a (hn a ha),fun f=>by obtain ⟨o,h⟩:=x.live a f;rw [hn a ha] at h;exact nn h⟩⟩
theorem St.toks (x:St W F G ρ s) (t:Nat):St W F G ρ { s with toks:=t }∧b2 F G ρ s F ρ { s with toks:=t }:=x.grow (b9.toks F t)
end
section
variable {W:Wd} {C:aC} {n:Nat} {sc:Scope}
theorem sq.e {t:PySem.Env→Sem Value} {d:SE} (h:sq W C n sc t d):cX W C n sc t d:=fun A env F G ρ s Q E hA S x q=>ax (h A env F G ρ s Q E hA S x q) (fun _ _ z=>z.epost x) am
theorem cX.q {t:PySem.Env→Sem Value} {d:SE} (h:cX W C n sc t d):Ge W C n sc t (.e d):=fun A env F G ρ s Q E hA S x q=>ax (h A env F G ρ s Q E hA S x q) (fun _ _ z=>z.q) am
theorem bad {t:PySem.Env→Sem Value}:cX W C n sc t b6:=fun _ _ _ _ _ _ _ _ _ _ _ q=>q.elim
theorem w8 {t:PySem.Env→Sem Bool}:nv W C n sc t zI:=fun _ _ _ _ _ _ _ _ _ _ _ q=>q.elim
theorem Gh:mM.all (fun x=>x != ("__debug__":Str)&&x != ("__classdict__":Str))=true:=by decide +kernel
theorem jj (h:bp i x):(x==("__debug__":Str))=false∧(x==("__classdict__":Str))=false:=by
 have:=aY.mp Gh x (List.mem_of_getElem? h)
 simp only [bC,bne_iff_ne,ne_eq] at this
 exact ⟨eG.mpr this.1,eG.mpr this.2⟩
theorem dc.loads (S:dc W sc env G) (ho:cU sc x=true) (hi:bp i x) :
  ∃ e,first G i=some e∧∀ {M:Model} {A:Around} {E:Value→Shared→Prop} {s:Shared} {v:Value} {Q:Value→Shared→Prop} {pos:Pos},e.pl.Holds s.heap (some v)→Q v s→wpAny M A (eval (.Name x pos) env) Q E s:=by
 rcases Bool.or_eq_true_iff.mp ho with ho | ho
 ·rcases Bool.or_eq_true_iff.mp ho with ho | ho
  ·obtain ⟨hk,e,hf,hp⟩:=S.loc x i (oT ho) hi
   refine ⟨e,hf,fun {M A E s v Q pos} hv q=>?_⟩
   rw [hp] at hv
   obtain ⟨m,hn,hm⟩:=hv
   exact wpAny_Name (wpAny_loadName_local S.kind hk hn hm q) (jj hi).1
  ·obtain ⟨hk,e,c,hf,hp,hc⟩:=S.cel x i (oT ho) hi
   refine ⟨e,hf,fun {M A E s v Q pos} hv q=>?_⟩
   rw [hp] at hv
   exact wpAny_Name (wpAny_loadName_cell S.kind hk hc hv q) (jj hi).1
 ·obtain ⟨hk,e,c,hf,hp,hc⟩:=S.fre x i (oT ho) hi
  refine ⟨e,hf,fun {M A E s v Q pos} hv q=>?_⟩
  rw [hp] at hv
  rcases hk with hk | hk
  ·exact wpAny_Name (wpAny_loadName_cell S.kind hk hc hv q) (jj hi).1
  ·exact wpAny_Name (wpAny_loadName_free S.kind hk hc hv q (jj hi).2) (jj hi).1
theorem dg (h:tb.id x=some i):bp i x:=Gf h
theorem xh {t:T} (h:tb.glob x=some t):(x==("__debug__":Str))=false:=by
 have h:rT x=some t:=h
 refine eG.mpr fun e=>?_
 have:rT ("__debug__":Str)=none:=by decide +kernel
 rw [e,this] at h;exact nn h
theorem dc.gets (S:dc W sc env G) (ho:cw sc x=true) (hd:(x==("__debug__":Str))=false)
  (hw:gW W) (hk:∀ b o,W.h0.get? b=some o→s.heap.get? b=some o) (hv:W.mg x=some v∨(W.mg x=none∧W.mb x=some v)) (q:Q v s):wpAny M A (eval (.Name x pos) env) Q E s:=by
 refine Calls.Name_function_global S.kind (S.glo x (oT ho)) ?_ hd
 rcases hv with hv | ⟨h1,h2⟩
 ·exact Calls.loadGlobal_global (S.g▸hw.ns.keeps hk) hv q
 ·exact Calls.loadGlobal_builtin (S.g▸hw.ns.keeps hk) h1 (S.b▸hw.bs.keeps hk) h2 q
theorem Lp (ho:cU sc x=true) (hi:bp i x):cX W C n sc (eval (.Name x pos)) (ae i):=by
 intro A env F G ρ s Q E hA S st q
 obtain ⟨e,hf,ld⟩:=S.loads ho hi
 have lk:=st.look hf
 have q:(match ρ.get i with | .val t=>Q t ρ | .own false t=>Q t (ρ.set i (.val t)) | _=>False):=q
 induction ht:ρ.get i with
 | unb=>rw [ht] at q;exact q.elim
 | val t=>
  rw [ht] at lk q
  obtain ⟨v,hv,r⟩:=lk
  exact ld hv ⟨t,F,ρ,q,st,.refl,r⟩
 | own fx t=>
  rw [ht] at q
  induction fx with
  | true=>exact q.elim
  | false=>
   obtain ⟨h1,h2,v,hv,r⟩:=st.freeze hf ht
   exact ld hv ⟨t,_,_,q,h1,h2,r⟩
theorem Bb {sl:Slot} {Q:T→Prop} (q:qi sl Q):∃ t,(sl=.val t∨∃ fx,sl=.own fx t)∧Q t:=by
 induction sl with
 | unb=>exact q.elim
 | val t=>exact ⟨t,.inl rfl,q⟩
 | own fx t=>exact ⟨t,.inr ⟨fx,rfl⟩,q⟩
theorem St.peek (st:St W F G ρ s) {e:bY} (hf:first G i=some e) {Q:T→Prop} (q:qi (ρ.get i) Q):∃ t v,Q t∧e.pl.Holds s.heap (some v)∧dY W F s.heap t v:=by
 have lk:=st.look hf
 obtain ⟨t,h,q⟩:=Bb q
 rcases h with h | ⟨fx,h⟩
 ·rw [h] at lk;obtain ⟨v,hv,r⟩:=lk;exact ⟨t,v,q,hv,r.q⟩
 ·rw [h] at lk;obtain ⟨v,hv,r⟩:=lk;exact ⟨t,v,q,hv,r.q⟩
theorem PH (ho:cU sc x=true) (hi:bp i x):Ge W C n sc (eval (.Name x pos)) (.v i):=by
 intro A env F G ρ s Q E hA S st q
 obtain ⟨e,hf,ld⟩:=S.loads ho hi
 obtain ⟨t,v,q,hv,r⟩:=st.peek hf (Q:=fun t=>Q t ρ) q
 exact ld hv ⟨t,F,ρ,q,st,.refl,r⟩
theorem ka {e:Expr} (h:oY tb sc e=some i) (k:∀ x p,e=.Name x p→cU sc x=true→tb.id x=some i→P):P:=dw h fun x h1 h2=>sr h2 fun h3 h4=>lR h1 fun p h5=>k x p h5 h3 h4
theorem m7 {e:Expr} (h:cX W C n sc (eval e) (bA tb sc e)):Ge W C n sc (eval e) (bf tb sc e (bA tb sc e)):=by
 unfold bf
 induction q:oY tb sc e with
 | none=>exact h.q
 | some i=>exact ka q fun x p e ho hi=>e▸PH ho (dg hi)
theorem vK {o:Option SE} {t:PySem.Env→Sem Value} (h:∀ d,o=some d→cX W C n sc t d):cX W C n sc t (Jr o):=by
 induction o with
 | none=>exact bad
 | some d=>exact h d rfl
theorem GZ (hw:gW W):cX W C n sc (eval (.Name x pos)) (ur tb sc x):=by
 unfold ur
 by_cases ho:cU sc x=true
 ·rw [au ho]
  exact vK fun d h=>eT h fun i hi z=>z▸Lp ho (dg hi)
 ·rw [av ho]
  by_cases hg:cw sc x=true
  ·rw [au hg]
   refine vK fun d h=>eT h fun t ht z=>?_
   subst z
   intro A env F G ρ s Q E hA S st q
   obtain ⟨v,hv,r⟩:=hw.glob x t ht
   exact S.gets hg (xh ht) hw st.world (.inl hv) ⟨t,F,ρ,q,st,.refl,r.mono (fun a f=>st.base a f) fun a o _ e=>st.world a o e⟩
  ·rw [av hg];exact bad
theorem DB {c:Const}:cX W C n sc (eval (.Constant c k pos)) (match Ga tb c with | some t=>ah t | none=>b6):=by
 induction ht:Ga tb c with
 | none=>exact bad
 | some t=>
  intro A env F G ρ s Q E hA S st q
  rw [arm_eval_Constant]
  obtain ⟨h1,h2⟩:=st.toks (s.toks+1)
  refine cps fun GG kk=>?_
  induction c with
  | none=>obtain rfl:=az ht;exact kk (al ⟨_,F,ρ,q,st,.refl,.none⟩)
  | bool b=>obtain rfl:=az ht;exact kk (al ⟨_,F,ρ,q,st,.refl,.bool _⟩)
  | int i=>obtain rfl:=az ht;exact kk (wpAny_mkInt ⟨_,F,ρ,q,h1,h2,.int _ _⟩)
  | str x=>
   refine eT ht fun i hi z=>kk ?_
   subst z
   exact wpAny_mkText ⟨_,F,ρ,q,h1,h2,.str _ (dg hi)⟩
  | _=>exact nn ht
end
end
section
section
variable {W:Wd} {F:Addr→Prop} {s:Shared} {A:Around} {E:Value→Shared→Prop}
theorem Es {h:Heap} {xs:List T}:∀ {vs:List Value} {l:List Bool},u5 xs=some l→bR W F h xs vs→vs=l.map .bool:=by
 induction xs with
 | nil=>intro vs l e x;rw [x.inv0,← az e];rfl
 | cons x xs ih=>
  intro vs l e r
  obtain ⟨v,vs,r1,rs⟩:=r.inv
  exact dw e fun b h1 e=>eT e fun l' hl z=>by rw [z,ih hl rs,(ux h1▸r1:VR W F h (.bool b) v).q.bool_inv];rfl
theorem BE (l:List Bool):(List.range l.length).all (fun i=>l.getD i true)=l.all id:=by
 have e:l=(List.range l.length).map fun i=>l.getD i true:=by
  refine List.ext_getElem (by simp) fun i h1 h2=>?_
  simp [h1]
 conv=>rhs;rw [e]
 rw [List.all_map];rfl
theorem KC {a t:T} (hA:A.handled=none) (hu:A.units+100 < cLine) (x:dY W F s.heap a v) (e:bi .all a=some t):wpAny (model W.prog W.w) A (call (.builtin "all") [v]) (fG W F s t) E s:=by
 refine dw e fun xs hx e=>eT e fun l hl z=>?_
 rw [z]
 obtain ⟨vs,ad,n,rfl,g,_,r⟩:=(et hx▸x).list_inv
 have hv:=Es hl r
 refine call_all_walk (wpAny_pyIter_list (pA g) ?_)
 have hne:ad≠s.heap.objs.size:=Nat.ne_of_lt (ef g)
 refine ⟨_,_,_,vs.toArray.size,_,_,fun i=>l.getD i true,rfl,Walks.list (show A.in1.handled=none from hA) s.heap.objs.size ad hne vs.toArray,?_,?_,?_⟩
 ·exact ⟨⟨_,dG _ rfl,rfl,rfl⟩,(pA g).push _⟩
 ·intro i v s' Q E' hi q
  rw [List.getElem?_toArray,hv,dO] at hi
  induction hb:l[i]? with
  | none=>rw [hb] at hi;exact nn hi
  | some b=>
   rw [hb] at hi
   obtain rfl:=az hi
   have:l.getD i true=b:=by rw [g9,hb];rfl
   have q:Q (l.getD i true) s':=q
   rw [this] at q
   exact wpAny_truthy_bool q
 ·intro h' tk hk
  have e1:vs.toArray.size=l.length:=by rw [hv];simp
  rw [e1,BE]
  refine ⟨F,⟨rfl,rfl,fun b o e=>hk b o (fun m=>?_) (bU _ e),fun _ f=>f,fun _=>.inl⟩,.bool _⟩
  rw [aV.mp m,aS] at e;exact nn e
end
end
section
set_option backward.match.sparseCases true
theorem Cn:typeLookup (.type "list") "keys"=pure none:=by rw [typeLookup_type,builtinLookup_eq_fast];kernel_rfl
theorem Jw {prog:Program} {w:World} {xs:Array Value} {Q:Option Value→Shared→Prop} (hA:A.handled=none)
  (hx:s.heap.get? a=some (seqObj "list" xs k)) (h:∀ h' tk,(∀ b o,s.heap.get? b=some o→h'.get? b=some o)→Q none { s with heap:=h',toks:=tk }):wpAny (model prog w) A (getAttr? (.ref a) "keys") Q E s:=by
 obtain ⟨hp,g,d,tk,os⟩:=s
 have hT:∀ tk',(⟨hp,g,d,tk',os⟩:Shared).TypeIs (.ref a) "list":=fun _=>⟨_,hx,rfl⟩
 have f1:=sub_AttributeError
 have f3:=PySem.F.slot_list_getattribute.lookup
 have f4:=PySem.F.slot_list_getattribute.bind (.ref a)
 have f5:=am_list_getattr_none
 have hm:=Cn
 unfold getAttr? getAttrBy? getAttrBy
 repeat (any_goals (first | assumption | exact hT _ | ((with_reducible show wpAny _ _ (call (Value.builtin "list.__getattribute__") _ _) _ _ _);refine call_meets PySem.F.slot_list_getattribute (hT _) am_entry_list_getattribute (PySem.F.args_list_getattribute_2 _ _) (meets_getattribute_miss_list a xs k #[] "keys" _ hm (by decide +kernel) (by decide +kernel)) ⟨hx,hA,fun h' tk' e hx'=>?_⟩) | wp_step))
 obtain ⟨t',u',he⟩:=hx'.there
 show wpAny _ _ (getattributeRaised _ _ _ _ _ _ _) _ _ _
 unfold getattributeRaised
 repeat (any_goals (first | assumption | wp_step))
 exact h _ _ hx'.keeps
theorem gE:plainId "dict.update.loop"=true:=by decide +kernel
theorem rn:entryFor table "dict.update.loop"=some Builtin.«dict.update.loop»:=entryFor_of_tree (by kernel_rfl)
section
variable {W:Wd} {F:Addr→Prop} {s:Shared} {A:Around} {E:Value→Shared→Prop}
theorem mE {x:T} {r:List T} {ps:List (T×T)} (e:fB (x::r)=some ps) (k:∀ a b ps',x=.tup [a,b]→fB r=some ps'→ps=(a,b)::ps'→P):P:=
 dw e fun p h1 e=>eT e fun ps' h2 z=>k p.1 p.2 ps' (q5 h1) h2 z
theorem u0 {xs:List T}:∀ {ps:List (T×T)} {i:Nat} {x:T},fB xs=some ps→xs[i]? = some x→∃ a b,x=.tup [a,b]∧ps.drop i=(a,b)::ps.drop (i+1):=by
 induction xs with
 | nil=>intro ps i x e h;exact nn h
 | cons y ys ih=>
  intro ps i x e h
  refine mE e fun a b ps' h1 h2 z=>?_
  rw [z]
  induction i with
  | zero=>exact ⟨a,b,(az h).symm.trans h1,rfl⟩
  | succ i=>exact ih (ps:=ps') (i:=i) h2 h
theorem wQ {xs:List T}:∀ {ps:List (T×T)},fB xs=some ps→ps.length=xs.length:=by
 induction xs with
 | nil=>intro ps e;rw [← az e];rfl
 | cons y ys ih=>intro ps e;exact mE e fun a b ps' h1 h2 z=>z▸aw (·+1) (ih h2)
structure O1 (W:Wd) (F:Addr→Prop) (s:Shared) (D I l:Addr) (ps:List (T×T)) (d:List (bK×T)) (i:Nat) (s':Shared) (acc:List (bK×T)) (es:List DictEntry) (ep:Nat):Prop where
 kp:∀ b o,s.heap.get? b=some o→s'.heap.get? b=some o
 gn:s'.gens=s.gens
 os:s'.os=s.os
 it:gY s'.heap I i (.list l)
 hd:s'.heap.get? D=some (aL es ep)
 r:cM W F s'.heap acc es
 nd:(acc.map (·.1)).Nodup
 hl:acc.length≤SZ
 hp:lF (ps.drop i) acc=some d
theorem Dz {R:Result→Shared→Prop} {D I l:Addr} {xs:List T} {ps:List (T×T)} {d:List (bK×T)} (hA:A.handled=none) (hu:A.units+60 < cLine) (hg:s.heap.get? l=some (seqObj "list" vs.toArray n)) (rv:bR W F s.heap xs vs)
  (hps:fB xs=some ps) (hlive:∀ a,F a→∃ o,s.heap.get? a=some o) (hI:s.heap.get? I=none) (hD:s.heap.get? D=none) (hID:I≠D)
  (fin:∀ s' es ep,(∀ b o,s.heap.get? b=some o→s'.heap.get? b=some o)→s'.gens=s.gens→s'.os=s.os→s'.heap.get? D=some (aL es ep)→cM W F s'.heap d es→(d.map (·.1)).Nodup→d.length≤SZ→R (.ok (.ret .none)) s') :
  ∀ (k i:Nat) (s':Shared) (acc:List (bK×T)) (es:List DictEntry) (ep:Nat) (tk:Tok),xs.length < i+k→i≤xs.length→O1 W F s D I l ps d i s' acc es ep→
   codeAny (model W.prog W.w) A (.builtin "dict.update.loop" ⟨[.ref D,.ref I,.int i tk,.none],[]⟩) R s':=by
 have nF:∀ {a},s.heap.get? a=none→¬ F a:=fun h f=>by obtain ⟨o,e⟩:=hlive _ f;rw [h] at e;exact nn e
 have ne:∀ {a b o},s.heap.get? a=none→s.heap.get? b=some o→b≠a:=fun h e q=>by rw [q,h] at e;exact nn e
 have hIl:I∉Hd.at (.list l):=fun m=>ne hI hg (aV.mp m).symm
 intro k
 induction k with
 | zero=>intro i s' acc es ep tk hk hi U;exact absurd (gB hk hi) (Nat.lt_irrefl _)
 | succ k ih=>
  intro i s' acc es ep tk hk hi U
  refine codeAny_builtin rn ?_
  rw [Around.under_plainId gE _]
  refine ac (m:=pyNext (.ref I)) (ax (j8 (F:=F) (xs:=xs) (show A.in1.handled=none from hA) (nF hI) U.it ⟨vs,n,U.kp _ _ hg,rv.mono (fun _ f=>f) fun a o _ e=>U.kp a o e⟩ hIl) (fun r' s₂ z=>?_) am)
  have kI:∀ b o,s.heap.get? b=some o→s₂.heap.get? b=some o:=fun b o e=>z.keep b o (ne hI e) (U.kp b o e)
  have hd2:=z.keep D _ (fun q=>hID q.symm) U.hd
  have r'2:=U.r.mono (fun _ f=>f) fun a o f e=>z.keep a o (fun q=>nF hI (q▸f)) e
  induction hx:xs[i]? with
  | none=>
   obtain rfl:=z.fin hx
   have hp:=U.hp
   rw [List.drop_eq_nil_of_le (by rw [wQ hps];exact List.getElem?_eq_none_iff.mp hx)] at hp
   obtain rfl:=az hp
   exact ac (al (al (fin s₂ es ep kI (z.gens.trans U.gn) (z.os.trans U.os) hd2 r'2 U.nd U.hl)))
  | some x=>
   obtain ⟨v,rvv,it2⟩:=z.item hx
   obtain ⟨a,b,hx',hdr⟩:=u0 hps hx
   have hp:=U.hp
   rw [hx'] at rvv
   rw [hdr] at hp
   have hlt:=(hM.mp hx).1
   refine dw (show (fO a).bind _=some d from hp) fun key hkey hp=>dw hp fun acc' hput hp=>pV hput fun h1 h2 z2=>?_
   subst z2
   obtain ⟨us,ad,m,rfl,_,g2,_,r2⟩:=rvv.tup_inv
   obtain ⟨v1,v2,ra,rb⟩:=r2.two
   refine ac (b5 (ac (wpAny_tryCatch ?_)))
   unfold Builtin.Dict.pairItems
   refine ac (wpAny_typeOf (T:="tuple") ⟨_,g2,rfl⟩ ?_)
   rw [au (by decide)]
   refine ac (wpAny_seqItems g2 rfl (al ?_))
   refine b5 (pU (A:=A.in1) (show A.units+1 < cLine by lia) (nF hD) hd2 r'2 U.nd h1 h2 (gH hkey▸ra) rb fun es' ep' h' tk' hg' hs' r'=>?_)
   refine al ⟨plainId_quiet gE _,?_⟩
   exact ih (i+1) { s₂ with heap:=h',toks:=tk' } _ es' ep' 0 (by lia) hlt ⟨fun b o e=>(hs'.2 b (ne hD e)).trans (kI b o e),z.gens.trans U.gn,z.os.trans U.os,it2.keep fun o e=>(hs'.2 I hID).trans e,hg',r',kf U.nd,aH g4 h2,hp⟩
theorem KS:∀ a b c d:Fin 12,reduceHash (Builtin.Tuple.tupleHashOf [hashInt (a:Nat),hashInt (b:Nat)])=reduceHash (Builtin.Tuple.tupleHashOf [hashInt (c:Nat),hashInt (d:Nat)])→a=c∧b=d:=by decide +kernel
theorem CQ {a b c d:Int} (h:0≤a∧a < 12∧0≤b∧b < 12) (h':0≤c∧c < 12∧0≤d∧d < 12) (e:eW W (.T [a,b])=eW W (.T [c,d])):a=c∧b=d:=by
 obtain ⟨a,rfl⟩:=Int.eq_ofNat_of_zero_le h.1
 obtain ⟨b,rfl⟩:=Int.eq_ofNat_of_zero_le h.2.2.1
 obtain ⟨c,rfl⟩:=Int.eq_ofNat_of_zero_le h'.1
 obtain ⟨d,rfl⟩:=Int.eq_ofNat_of_zero_le h'.2.2.1
 have:=KS ⟨a,Int.ofNat_lt.mp h.2.1⟩ ⟨b,Int.ofNat_lt.mp h.2.2.2⟩ ⟨c,Int.ofNat_lt.mp h'.2.1⟩ ⟨d,Int.ofNat_lt.mp h'.2.2.2⟩ e
 exact ⟨aw (fun x:Fin 12=>(x.val:Int)) this.1,aw (fun x:Fin 12=>(x.val:Int)) this.2⟩
inductive Po:bK→Prop where
 | mk (a b:Int) (h:0≤a∧a < 12∧0≤b∧b < 12):Po (.T [a,b])
theorem io {k:bK} (h:wI k=true):Po k:=by
 unfold wI at h
 induction q:(Il k).bind two with
 | none=>rw [q] at h;exact bt h
 | some p=>
  rw [q] at h
  exact dw q fun l h1 h2=>by rw [Ke h1,xr h2];exact ⟨_,_,bH h⟩
theorem uP {k:bK} (h:Pb k=true):∃ i,k=.I i:=by
 induction k with
 | I i=>exact ⟨i,rfl⟩
 | _=>exact bt h
set_option tactic.hygienic true in
theorem qc {f:α→Int} {c:Int}:∀ {l:List α},(l.map f).Nodup→(l.filter fun x=>f x==c).length≤1
 | [],_=>by simp
 | x::l,h=>by
  rw [c6,cP] at h
  rw [List.filter_cons]
  split
  ·rename_i hx
   have:l.filter (fun x=>f x==c)=[]:=by
    rw [List.filter_eq_nil_iff]
    intro y hy hyc
    refine h.1 (bo.mpr ⟨y,hy,?_⟩)
    rw [bm.mp hyc,bm.mp hx]
   rw [this];simp
  ·exact qc h.2
theorem cM.hashes {h:Heap}:∀ {es:List DictEntry},cM W F h kvs es→es.map (·.hash)=kvs.map fun p=>eW W p.1:=by
 induction kvs with
 | nil=>intro es x;rw [x.inv0];rfl
 | cons p kvs ih=>
  intro es x
  obtain ⟨e,es,_,b,_,r⟩:=cM.inv (k:=p.1) (t:=p.2) x
  rw [c6,c6,b,ih r]
theorem qH:typeLookup (.type "tuple") "__eq__"=pure (some (.builtin "tuple.__eq__")):=by rw [typeLookup_type,builtinLookup_eq_fast];kernel_rfl
theorem vS {es:List DictEntry} {o:Addr} {nm:String} {Q:Array DictEntry→Shared→Prop} (g:s.heap.get? o=some (aL es ep)) (r:cM W F s.heap kvs es) (nd:(kvs.map (·.1)).Nodup) (hc:kvs.all (fun p=>wI p.1)=true) (q:Q es.toArray s) :
  wpAny (model W.prog W.w) A (Builtin.Dict.entriesForEmpty nm o) Q E s:=by
 rw [aY] at hc
 have hnh:(es.map (·.hash)).Nodup:=by
  rw [r.hashes]
  have h1:=List.pairwise_map.mp nd
  refine List.pairwise_map.mpr (h1.imp_of_mem fun {p p'} hp hp' hne e=>hne ?_)
  have h2:=io (hc p hp)
  have h4:=io (hc p' hp')
  generalize p.1=k at h2 e ⊢
  generalize p'.1=k' at h4 e ⊢
  obtain ⟨a,b,h3⟩:=h2
  obtain ⟨c,d,h5⟩:=h4
  have h6:=CQ h3 h5 e
  rw [h6.1,h6.2]
 unfold Builtin.Dict.entriesForEmpty
 refine ac (fY g rfl ?_)
 refine ac ?_
 rw [← Array.forIn_toList]
 refine wpAny_forIn_list _ (fun rest (_:PUnit) s'=>s'=s∧∀ e∈rest,e∈es) _ ?_ ?_ _ _ ⟨rfl,fun e he=>he⟩
 ·rintro e rest b s' ⟨rfl,hm⟩
  have he:e∈es:=hm e (by simp)
  obtain ⟨i,hi,rfl⟩:=List.getElem_of_mem he
  have hik:i < kvs.length:=by rw [r.length];exact hi
  obtain ⟨k,t,hkt⟩:∃ k t,kvs[i]=(k,t):=⟨_,_,rfl⟩
  obtain ⟨e',he',hk,_,_⟩:=r.at (i:=i) (k:=k) (t:=t) (by rw [cj hik,hkt])
  rw [cj hi] at he'
  obtain rfl:=az he'
  obtain ⟨a,c,_⟩:=(io (hc (k,t) (hkt▸List.getElem_mem hik)):Po k)
  obtain ⟨vs,ad,n,hv,_,gk,_,_⟩:=(show VR W F s'.heap (.tup [.int a,.int c]) _ from hk).tup_inv
  have hfl:¬ (es.toArray.filter (fun x=>x.hash==es[i].hash)).size > 1:=by
   have:=qc (f:=DictEntry.hash) (c:=es[i].hash) (l:=es) hnh
   rw [← eX,Array.toList_filter]
   exact Nat.not_lt.mpr this
  refine ac ?_
  unfold Builtin.Dict.quietEq
  rw [hv]
  dsimp only
  refine ac (wpAny_specialOf (T:="tuple") ⟨_,gk,rfl⟩ qH (al ?_))
  rw [au (by decide),av hfl]
  exact al ⟨rfl,fun e he=>hm e (List.mem_cons_of_mem _ he)⟩
 ·rintro b s' ⟨rfl,_⟩
  exact al q
theorem FO {k:bK} {t:T} (h:k∉kvs.map (·.1)):gZ kvs k t=kvs++[(k,t)]:=by
 unfold gZ
 rw [av]
 rw [List.any_eq_true]
 rintro ⟨p,hp,e⟩
 exact h (bo.mpr ⟨p,hp,bH e⟩)
theorem xV (nd:(kvs.map (·.1)).Nodup) {x:Nat} (hx:x < kvs.length):kvs[x].1∉(kvs.take x).map (·.1):=by
 intro hm
 obtain ⟨p,hp,e⟩:=bo.mp hm
 obtain ⟨j,hj,rfl⟩:=List.getElem_of_mem hp
 rw [List.length_take] at hj
 have hjx:j < x:=gB hj (Nat.min_le_left _ _)
 rw [List.getElem_take] at e
 refine List.pairwise_iff_getElem.mp nd j x (by rw [ba];exact Nat.lt_trans hjx hx) (by rw [ba];exact hx) hjx ?_
 rw [List.getElem_map,List.getElem_map];exact e
theorem C7 (hc:jv kvs=true) {p q:bK×T} (hp:p∈kvs) (hq:q∈kvs):(p.1.kind==q.1.kind)=true:=by
 rcases Bool.or_eq_true_iff.mp hc with hc | hc
 ·have hc:=aY.mp (cB.mp hc).2
  obtain ⟨a,ha⟩:=uP (hc p hp)
  obtain ⟨b,hb⟩:=uP (hc q hq)
  rw [ha,hb];rfl
 ·have hc:=aY.mp hc
  have h1:=io (hc p hp)
  have h2:=io (hc q hq)
  generalize p.1=k at h1
  generalize q.1=k' at h2
  obtain ⟨a,b,_⟩:=h1
  obtain ⟨c,d,_⟩:=h2
  rfl
structure Qd (W:Wd) (F:Addr→Prop) (s:Shared) (D:Addr) (kvs:List (bK×T)) (i:Nat) (es':List DictEntry) (ep':Nat) (h':Heap):Prop where
 g:h'.get? D=some (aL es' ep')
 b:Heap.SameBut D s.heap h'
 r:cM W F h' (kvs.take i) es'
theorem yw {es:List DictEntry} {D o:Addr} {ep0:Nat} {nm:String} {Q:Unit→Shared→Prop} (hu:A.units < cLine) (hF:¬ F D) (hDo:D≠o) (g:s.heap.get? o=some (aL es ep)) (gD:s.heap.get? D=some (aL [] ep0)) (r:cM W F s.heap kvs es)
  (nd:(kvs.map (·.1)).Nodup) (hl:kvs.length≤SZ) (hc:jv kvs=true)
  (q:∀ es' ep' h' tk,h'.get? D=some (aL es' ep')→Heap.SameBut D s.heap h'→cM W F h' kvs es'→Q () { s with heap:=h',toks:=tk }):wpAny (model W.prog W.w) A (do
   let epoch ← dictEpoch o
   for i in [0:(← dictEntries o).size] do
    let some e:=(← dictEntries o)[i]? | unsupported "internal:dict-merge"
    holding [e.key,e.val] (dictSetHashed D e.key e.hash e.val)
    if (← dictEpoch o) != epoch then unsupported s!"{nm}:source-changed-during-callback") Q E s:=by
 have hlen:=r.length
 refine ac (wpAny_dictEpoch g rfl (ac (fY g rfl (ac ?_))))
 refine qT es.length _ (fun i _ s'=>∃ es' ep' h' tk,s'={ s with heap:=h',toks:=tk }∧Qd W F s D kvs i es' ep' h') _ (fun x b s' hx I=>?_) (fun b s' I=>?_) _ ⟨[],ep0,s.heap,s.toks,rfl,gD,Heap.SameBut.refl _ _,.nil⟩
 ·obtain ⟨es',ep',h',tk,rfl,J⟩:=I
  have g':h'.get? o=some (aL es ep):=(J.b.2 o (Ne.symm hDo)).trans g
  have hik:x < kvs.length:=by rw [hlen];exact hx
  have hmem:kvs[x]∈kvs:=List.getElem_mem hik
  obtain ⟨e,he,hk,hh,hv⟩:=r.at (i:=x) (k:=kvs[x].1) (t:=kvs[x].2) (cj hik)
  refine ac (fY (s:={ s with heap:=h',toks:=tk }) g' rfl ?_)
  rw [List.getElem?_toArray,he]
  refine ac (m:=holding [e.key,e.val] (dictSetHashed D e.key e.hash e.val)) (b5 ?_)
  rw [hh]
  have hhom:tZ kvs[x].1 (kvs.take x)=true:=aY.mpr fun p hp=>C7 hc (List.mem_of_mem_take hp) hmem
  have mono:∀ {t v},VR W F s.heap t v→VR W F h' t v:=fun x=>x.mono (fun _ f=>f) fun a o f e=>(J.b.2 a (fun q=>hF (q▸f))).trans e
  refine wE (s:={ s with heap:=h',toks:=tk }) hu hF J.g J.r (List.map_take▸List.Pairwise.sublist (List.take_sublist ..) nd) hhom (by rw [List.length_take];exact eD (Nat.min_le_left _ _) (gB hik hl)) (mono hk) (mono hv) fun es2 ep2 h2 tk2 g2 hb2 r2=>?_
  rw [FO (xV nd hik)] at r2
  have g3:h2.get? o=some (aL es ep):=(hb2.2 o (Ne.symm hDo)).trans g'
  refine ac (wpAny_dictEpoch (s:={ s with heap:=h2,toks:=tk2 }) g3 rfl (bD (by simp) (al ⟨es2,ep2,h2,tk2,rfl,g2,J.b.trans hb2,?_⟩)))
  rw [List.take_add_one,cj hik]
  exact r2
 ·obtain ⟨es',ep',h',tk,rfl,J⟩:=I
  exact al (q es' ep' h' tk J.g J.b (List.take_of_length_le (er hlen)▸J.r))
theorem AV {es:List DictEntry} (r:cM W F s.heap kvs es) (h:(kvs.all fun p=>Pb p.1)=true):(es.toArray.all fun e=>(keyPart e.key).isSome)=true:=by
 rw [List.all_toArray]
 refine aY.mpr fun e he=>?_
 obtain ⟨k,t,hm,hk,_⟩:=r.mem he
 obtain ⟨n,hn⟩:=uP (aY.mp h _ hm)
 have hn:k=.I n:=hn
 subst hn
 obtain ⟨u,hu⟩:=(show VR W F s.heap (.int n) _ from hk).q.int_inv
 rw [hu];rfl
theorem Ir {es:List DictEntry} {D o:Addr} {ep0:Nat} {nm:String} {Q:Unit→Shared→Prop} (hu:A.units < cLine) (hF:¬ F D) (hDo:D≠o) (ho:(o==sysModules)=false) (g:s.heap.get? o=some (aL es ep)) (gD:s.heap.get? D=some (aL [] ep0)) (r:cM W F s.heap kvs es)
  (nd:(kvs.map (·.1)).Nodup) (hl:kvs.length≤SZ) (hc:jv kvs=true)
  (q:∀ es' ep' h' tk,h'.get? D=some (aL es' ep')→Heap.SameBut D s.heap h'→cM W F h' kvs es'→Q () { s with heap:=h',toks:=tk }):wpAny (model W.prog W.w) A (Builtin.Dict.mergeDict nm D o) Q E s:=by
 have hlen:=r.length
 have loopQ:=yw (E:=E) (nm:=nm) hu hF hDo g gD r nd hl hc q
 unfold Builtin.Dict.mergeDict
 refine bD (by simpa using hDo) (ac ?_)
 unfold Builtin.Dict.showsAll
 refine bD (by rw [ho];exact bO) (al (ac (fY g rfl ?_)))
 dsimp only
 by_cases hfew:(decide (es.toArray.size≤8)&&es.toArray.all fun e=>(keyPart e.key).isSome)=true
 ·exact bD (by rw [hfew];exact bO) loopQ
 ·refine lm (by rw [Bool.eq_false_iff.mpr hfew];rfl) ?_
  have hc2:kvs.all (fun p=>wI p.1)=true:=(Bool.or_eq_true_iff.mp hc).resolve_left fun h=>hfew (cB.mpr ⟨br (aH (er hlen.symm) (bH (cB.mp h).1)),AV r (cB.mp h).2⟩)
  refine ac (fY gD rfl (lm (by simp) (ac (vS g r nd hc2 ?_))))
  by_cases hne:(!es.toArray.isEmpty)=true
  ·refine lm hne (ac (wpAny_updateDictKeysTo gD rfl (al ?_) (show es.toArray.size≤_ from aH (er hlen.symm) (Nat.le_succ_of_le (aH hl gG)))))
   have hb:Heap.SameBut D s.heap (s.heap.update D (Obj.mapDictKeys fun _=>es.toArray)):=fZ ..
   exact q es (ep0+1) _ s.toks (Heap.get?_update_self _ gD rfl) hb (r.mono (fun _ f=>f) fun a o f e=>(hb.2 a (fun q=>hF (q▸f))).trans e)
  ·refine bD hne ?_
   have h0:es=[]:=by simpa using hne
   subst h0
   have hk0:kvs=[]:=eC hlen
   subst hk0
   exact al (q [] ep0 s.heap s.toks gD (Heap.SameBut.refl _ _) .nil)
theorem vN {ps:List (T×T)}:∀ {acc d:List (bK×T)},lF ps acc=some d→(acc.map (·.1)).Nodup→acc.length≤SZ→(d.map (·.1)).Nodup∧d.length≤SZ:=by
 induction ps with
 | nil=>intro acc d e h1 h2;rw [← az e];exact ⟨h1,h2⟩
 | cons p ps ih=>intro acc d e h1 h2;exact dw e fun key hk e=>dw e fun acc' hp e=>pV hp fun _ h3 z=>ih e (z▸kf h1) (z▸aH g4 h3)
theorem tA {d:List (bK×T)} {es:List DictEntry} (kp:∀ b o,s.heap.get? b=some o→s'.heap.get? b=some o) (e1:s'.gens=s.gens) (e2:s'.os=s.os) (hsys:∃ o,s.heap.get? sysModules=some o) (g:s'.heap.get? s.heap.objs.size=some (aL es ep)) (r:cM W F s'.heap d es)
  (nd:(d.map (·.1)).Nodup) (hl:d.length≤SZ):mh W F s (.dict d) (.ref s.heap.objs.size) s':=
 ⟨[s.heap.objs.size],⟨e1,e2,kp,fun _ f=>f,fun _=>.inl⟩,.dict rfl g hl ⟨nd,by
  obtain ⟨o,ho⟩:=hsys
  have:s.heap.objs.size≠sysModules:=fun q=>Nat.lt_irrefl _ (q▸ef ho)
  simpa using this⟩ r,by simp,fun a ha=>by rw [aV.mp ha];exact aS _⟩
theorem zV {a t:T} (hA:A.handled=none) (hu:A.units+100 < cLine) (hF:∀ a,F a→∃ o,s.heap.get? a=some o) (hsys:∃ o,s.heap.get? sysModules=some o) (x:dY W F s.heap a v) (e:bi .dict a=some t):wpAny (model W.prog W.w) A (call (.type "dict") [v]) (mh W F s t) E s:=by
 have hFn:¬ F s.heap.objs.size:=fun f=>by obtain ⟨o,q⟩:=hF _ f;exact Nat.lt_irrefl _ (ef q)
 have hnew:(s.heap.push (aL [] 0)).get? s.heap.objs.size=some (aL [] 0):=dG _ rfl
 have hT:Shared.TypeIs { s with heap:=s.heap.push (aL [] 0) } (.ref s.heap.objs.size) "dict":=⟨_,hnew,rfl⟩
 refine cps fun GG kk=>?_
 cases a with
 | list xs=>
  refine kk (eT e fun d hd z=>dw hd fun ps hps hput=>?_)
  subst z
  obtain ⟨vs,l,n,rfl,g,hl,r⟩:=x.list_inv
  have g':(s.heap.push (aL [] 0)).get? l=some (seqObj "list" vs.toArray n):=bU _ g
  refine callType_codes (Q₁:=fun obj s₁=>obj=.ref s.heap.objs.size∧s₁={ s with heap:=s.heap.push (aL [] 0) }) PySem.F.kt_called_dict (PySem.F.kt_typeCall_dict_1 _) PySem.F.entry_dict_init (kt_code_dict_new _ ⟨rfl,rfl⟩) ?_
  rintro obj s₁ ⟨rfl,rfl⟩
  refine ⟨hT,PySem.F.args_dict_init_2 _ _,?_⟩
  unfold Builtin.«dict.__init__»
  refine ac ?_
  unfold Builtin.Dict.selfAndRest
  refine ac (wpAny_notOrdered_dict hT ?_)
  show wpAny _ _ (pure (s.heap.objs.size,[Value.ref l])) _ _ _
  refine al ?_
  show wpAny _ _ (Builtin.Dict.updateFrom "dict.__init__" s.heap.objs.size (.ref l) [] .none) _ _ _
  unfold Builtin.Dict.updateFrom
  refine ac (wpAny_typeOf (T:="list") ⟨_,g',rfl⟩ ?_)
  rw [au (by decide)]
  refine ac (Jw (s:={ s with heap:=s.heap.push (aL [] 0) }) (show A.in1.in1.handled=none from hA) g' fun h'1 tk k'1=>?_)
  rw [au (by rfl)]
  refine ac (wpAny_rule ?_)
  refine ac (wpAny_pyIter_list (s:={ s with heap:=h'1,toks:=tk }) (pA (k'1 _ _ g')) ?_)
  have kp:∀ b o,s.heap.get? b=some o→h'1.get? b=some o:=fun b o e=>k'1 b o (bU _ e)
  have hIn:s.heap.get? h'1.objs.size=none:=by
   induction q:s.heap.get? h'1.objs.size with
   | none=>rfl
   | some o=>exact absurd (ef (kp _ _ q)) (Nat.lt_irrefl _)
  have hID:h'1.objs.size≠s.heap.objs.size:=fun q=>by
   have:=ef (k'1 _ _ hnew)
   rw [← q] at this
   exact Nat.lt_irrefl _ this
  obtain ⟨f1,f2⟩:=vN hput (by simp) (ck _)
  refine al ⟨plainId_quiet gE _,Dz (s:=s) (A:=A.in1) (I:=h'1.objs.size) (D:=s.heap.objs.size) (l:=l) (xs:=xs) (vs:=vs) (n:=n) (ps:=ps) (d:=d) hA (by show A.units+1+60 < cLine;lia) g r hps hF hIn (aS _) hID (fun s' es ep k e1 e2 gD rD nd' hl'=>?_) (xs.length+1) 0 _ [] [] 0 0 (by lia) (ck _) ⟨fun b o e=>?_,rfl,rfl,?_,?_,.nil,cK,ck _,hput⟩⟩
  ·exact ⟨rfl,tA k e1 e2 hsys gD rD nd' hl'⟩
  ·exact bU _ (kp b o e)
  ·exact ⟨_,dG _ rfl,rfl,rfl⟩
  ·exact bU _ (k'1 _ _ hnew)
 | dict kvs=>
   refine kk (ifs e fun hc z=>?_)
   subst z
   obtain ⟨es,o,ep,rfl,g,hl,nd,hs,r⟩:=x.dict_inv
   have g':(s.heap.push (aL [] 0)).get? o=some (aL es ep):=bU _ g
   have r':cM W F (s.heap.push (aL [] 0)) kvs es:=r.mono (fun _ f=>f) fun a o _ e=>bU _ e
   refine callType_codes (Q₁:=fun obj s₁=>obj=.ref s.heap.objs.size∧s₁={ s with heap:=s.heap.push (aL [] 0) }) PySem.F.kt_called_dict (PySem.F.kt_typeCall_dict_1 _) PySem.F.entry_dict_init (kt_code_dict_new _ ⟨rfl,rfl⟩) ?_
   rintro obj s₁ ⟨rfl,rfl⟩
   refine ⟨hT,PySem.F.args_dict_init_2 _ _,?_⟩
   unfold Builtin.«dict.__init__»
   refine ac ?_
   unfold Builtin.Dict.selfAndRest
   refine ac (wpAny_notOrdered_dict hT ?_)
   show wpAny _ _ (pure (s.heap.objs.size,[Value.ref o])) _ _ _
   refine al ?_
   show wpAny _ _ (Builtin.Dict.updateFrom "dict.__init__" s.heap.objs.size (.ref o) [] .none) _ _ _
   unfold Builtin.Dict.updateFrom
   refine ac (wpAny_typeOf (T:="dict") ⟨_,g',rfl⟩ ?_)
   rw [av (by decide)]
   refine ac ?_
   unfold Builtin.Dict.merge
   refine ac ?_
   unfold Builtin.Dict.readDirectly
   refine ac (wpAny_isInstance (T:="dict") ⟨_,g',rfl⟩ isSubtype_dict_dict ?_)
   simp only [Bool.not_true,Bool.false_eq_true,if_false]
   refine ac (wpAny_specialOf (T:="dict") ⟨_,g',rfl⟩ PySem.F.slot_dict_iter.lookup (al ?_))
   simp only [beq_self_eq_true,if_true]
   refine ac (al ?_)
   refine Ir (s:={ s with heap:=s.heap.push (aL [] 0) }) (F:=F) (by show A.units+1+1 < cLine;lia) hFn (fun q=>Nat.lt_irrefl _ (q▸ef g)) hs g' hnew r' nd hl hc fun es' ep' h' tk gD hb rD=>?_
   refine ac (m:=Builtin.Dict.addKeywords s.heap.objs.size []) (al ?_)
   refine al ⟨rfl,tA (fun b o e=>(hb.2 b (fun q=>Nat.lt_irrefl _ (q▸ef e))).trans (bU _ e)) rfl rfl hsys gD rD nd hl⟩
 | _=>exact nn e
end
end
section
set_option backward.match.sparseCases true
section
variable {W:Wd} {F:Addr→Prop} {s:Shared} {A:Around} {E:Value→Shared→Prop}
theorem LQ {op:Operator} {a b t:T} {va vb:Value} (hA:A.handled=none) (hu:A.units+100 < cLine) (x:VR W F s.heap a va) (y:VR W F s.heap b vb) (e:tw op a b=some t):wpAny (model W.prog W.w) A (binaryOp op va vb) (fG W F s t) E s:=by
 refine cps fun G k=>?_
 cases a with
 | int i=>
  refine k (dw e fun j hj e=>?_)
  obtain ⟨u,rfl⟩:=x.q.int_inv;obtain ⟨v,rfl⟩:=(cC hj▸y).q.int_inv;exact Eu e
 | tup xs=>
  exact k (dw e fun ys hy e=>sr e fun ho e=>ifs e fun l z=>by
   induction op with
   | Add=>rw [z];exact EL x (rj hy▸y) l
   | _=>exact bt ho)
 | list xs=>
  exact k (dw e fun ys hy e=>sr e fun ho e=>ifs e fun l z=>by
   induction op with
   | Add=>rw [z];exact ax (y5 x.q (et hy▸y).q l) (fun _ _ z=>z.res) am
   | _=>exact bt ho)
 | set xs=>
  exact k (dw e fun ys hy e=>sr e fun ho e=>ifs e fun l z=>by
   induction op with
   | BitOr=>rw [z];exact GH x (Kd hy▸y) l
   | _=>exact bt ho)
 | _=>exact nn e
end
theorem lA {keep:List Value} {Q:Unit→Shared→Prop} (h:Q () s):wpAny M A (release vs keep) Q E s:=fun Γ p _=>by rw [Sem.wp_release];exact h
theorem aW {o:Option α} {Q:α→Prop} (q:fW o Q):∃ a,o=some a∧Q a:=by
 induction o with
 | none=>exact q.elim
 | some a=>exact ⟨a,rfl,q⟩
section
variable {W:Wd} {C:aC} {n:Nat} {sc:Scope}
theorem MY {op:Operator} {l r:Expr} {dl dr:SE} (hl:cX W C n sc (eval l) dl) (hr:cX W C n sc (eval r) dr):cX W C n sc (eval (.BinOp l op r pos)) (cy op dl dr):=by
 intro A env F G ρ s Q E hA S st q
 refine wpAny_BinOp (ax (hl A env F G ρ s _ E hA S st q) (fun a s₁ h'1=>?_) am)
 obtain ⟨ta,F'1,ρ1,q,st1,y'1,ra⟩:=h'1
 refine ax (hr A env F'1 G ρ1 s₁ _ E hA S st1 q) (fun b s₂ h'2=>?_) am
 obtain ⟨tb',F'2,ρ2,q,st2,y'2,rb⟩:=h'2
 obtain ⟨t,ht,q⟩:=aW q
 exact ax (LQ hA.handled hA.u (y'2.step.vr st1 ra) rb ht) (fun v s'3 h'3=>h'3.epost (y'1.trans y'2) st2 q) am
theorem D6 {x:Expr} {d:SE} (h:cX W C n sc (eval x) d):cX W C n sc (eval (.UnaryOp .USub x pos)) (sR d):=by
 intro A env F G ρ s Q E hA S st q
 rw [arm_eval_UnaryOp]
 refine ac (ax (h A env F G ρ s _ E hA S st q) (fun a s₁ h'1=>?_) am)
 obtain ⟨ta,F'1,ρ1,q,st1,y'1,ra⟩:=h'1
 obtain ⟨t,ht,q⟩:=aW q
 exact ac (dI (b5 (ax (JG ht ra) (fun v s'3 h'3=>h'3.epost y'1 st1 q) am)))
theorem OV {p q:Prop}:bq true p q=p:=rfl
theorem Oi {p q:Prop}:bq false p q=q:=rfl
theorem MN {test body orelse:Expr} {c:SB} {a b:SE} (hc:nv W C n sc (fun env=>isTrue test env (eval test env)) c) (ha:cX W C n sc (eval body) a) (hb:cX W C n sc (eval orelse) b) :
  cX W C n sc (eval (.IfExp test body orelse pos)) (iW c a b):=by
 intro A env F G ρ s Q E hA S st q
 rw [arm_eval_IfExp]
 refine ac (ax (hc A env F G ρ s _ E hA S st q) (fun t s₁ h'1=>?_) am)
 obtain ⟨F'1,ρ1,q,st1,y'1⟩:=h'1
 induction t with
 | true=>exact ax (ha A env F'1 G ρ1 s₁ _ E hA S st1 q) (fun _ _ z=>z.after y'1) am
 | false=>exact ax (hb A env F'1 G ρ1 s₁ _ E hA S st1 q) (fun _ _ z=>z.after y'1) am
theorem Cx {op:BoolOp} {x r:Expr} {dx dr:SE} (hx:cX W C n sc (eval x) dx) (hr:cX W C n sc (eval r) dr) :
  cX W C n sc (eval (.BoolOp op [x,r] pos)) (match op with | .And=>K7 dx dr | .Or=>OY dx dr):=by
 intro A env F G ρ s Q E hA S st q
 rw [arm_eval_BoolOp]
 show wpAny _ _ (do
  let v ← eval x env
  standAt pos
  let t ← holding [v] (truthy v)
  match op,t with
  | .And,false | .Or,true=>pure v
  | _,_=>eval r env) _ _ _
 induction op with
 | And=>
  refine ac (ax (hx A env F G ρ s _ E hA S st q) (fun a s₁ h'1=>?_) am)
  obtain ⟨ta,F'1,ρ1,q,st1,y'1,ra⟩:=h'1
  obtain ⟨b,hb,q⟩:=aW q
  refine ac (dI (ac (b5 (ax (r8 ra.q hb) (fun b' s₂ h'2=>?_) am))))
  obtain ⟨rfl,tk,rfl⟩:=h'2
  obtain ⟨st2,y'2⟩:=st1.toks tk
  induction b' with
  | true=>exact ax (hr A env F'1 G ρ1 _ _ E hA S st2 q) (fun _ _ z=>z.after (y'1.trans y'2)) am
  | false=>exact al ⟨ta,F'1,ρ1,q,st2,y'1.trans y'2,ra⟩
 | Or=>
  refine ac (ax (hx A env F G ρ s _ E hA S st q) (fun a s₁ h'1=>?_) am)
  obtain ⟨ta,F'1,ρ1,q,st1,y'1,ra⟩:=h'1
  obtain ⟨b,hb,q⟩:=aW q
  refine ac (dI (ac (b5 (ax (r8 ra.q hb) (fun b' s₂ h'2=>?_) am))))
  obtain ⟨rfl,tk,rfl⟩:=h'2
  obtain ⟨st2,y'2⟩:=st1.toks tk
  induction b' with
  | true=>exact al ⟨ta,F'1,ρ1,q,st2,y'1.trans y'2,ra⟩
  | false=>exact ax (hr A env F'1 G ρ1 _ _ E hA S st2 q) (fun _ _ z=>z.after (y'1.trans y'2)) am
noncomputable def EH (op:CmpOp) (r:Expr):Prop:=behindInMarks op r=false∨∃ es k p,r=.Set es k p
theorem EH.r {r:Expr} (h:behindInMarks op r=false):EH op r:=.inl h
theorem GB {r:Expr}:EH op r:=by
 cases r with
 | Set es k p=>exact .inr ⟨es,k,p,rfl⟩
 | _=>exact .r rfl
theorem vD {r:Expr} (h:∀ es k p,r≠.Set es k p):behindInMarks op r=false:=GB.resolve_right fun ⟨es,k,p,e⟩=>h es k p e
theorem Du {l r:Expr} {dl:SE} (hl:cX W C n sc (eval l) dl) (hr:Ge W C n sc (eval r) o) {A env F G ρ s E} {Q:Bool→Env→Prop} (hA:sL n A) (S:dc W sc env G) (st:St W F G ρ s) (q:aD op dl o C ρ Q) :
  wpAny (model W.prog W.w) A (eval l env) (fun a s₁=>wpAny (model W.prog W.w) A (eval r env) (fun b s₂=>wpAny (model W.prog W.w) A (compareOp op a b) (fun v s'3=>∃ t F' ρ',Q t ρ'∧v=.bool t∧St W F' G ρ' s'3∧b2 F G ρ s F' ρ' s'3) E s₂) E s₁) E s:=by
 refine ax (hl A env F G ρ s _ E hA S st q) (fun a s₁ h'1=>?_) am
 obtain ⟨ta,F'1,ρ1,q,st1,y'1,ra⟩:=h'1
 refine ax (hr A env F'1 G ρ1 s₁ _ E hA S st1 q) (fun b s₂ h'2=>?_) am
 obtain ⟨tb',F'2,ρ2,q,st2,y'2,rb⟩:=h'2
 obtain ⟨t,ht,q⟩:=aW q
 refine ax (yI hA.u (y'2.step.vr st1 ra).q rb ht) (fun v s'3 h'3=>?_) am
 obtain ⟨rfl,tk,rfl⟩:=h'3
 obtain ⟨st3,y'3⟩:=st2.toks tk
 exact ⟨t,F'2,ρ2,q,rfl,st3,(y'1.trans y'2).trans y'3⟩
theorem KJ {l r:Expr} {dl:SE} (hm:∀ es k p,r≠.Set es k p) (hl:cX W C n sc (eval l) dl) (hr:Ge W C n sc (eval r) o):cX W C n sc (eval (.Compare l [op] [r] pos)) (gF op dl o):=by
 intro A env F G ρ s Q E hA S st q
 refine wpAny_Compare1 (ax (Du hl hr hA S st q) (fun a s₁ h'1=>ax h'1 (fun b s₂ h'2=>ax h'2 (fun v s'3 h'3=>?_) am) am) am) (vD hm)
 obtain ⟨t,F',ρ',q,rfl,st',y⟩:=h'3
 exact ⟨_,F',ρ',q,st',y,.bool t⟩
theorem Gi {l r:Expr} {dl:SE} (hm:∀ es k p,r≠.Set es k p) (hl:cX W C n sc (eval l) dl) (hr:Ge W C n sc (eval r) o) :
  nv W C n sc (fun env=>isTrue (.Compare l [op] [r] pos) env (eval (.Compare l [op] [r] pos) env)) (aD op dl o):=by
 intro A env F G ρ s Q E hA S st q
 refine wpAny_isTrue_Compare1 (ax (Du hl hr hA S st q) (fun a s₁ h'1=>ax h'1 (fun b s₂ h'2=>ax h'2 (fun v s'3 h'3=>?_) am) am) am) (vD hm)
 obtain ⟨t,F',ρ',q,rfl,st',y⟩:=h'3
 exact wpAny_truthy_bool ⟨F',ρ',q,st',y⟩
theorem CR {op':CmpOp} {l m r:Expr} {dl dm dr:SE} (hr':∀ es k p,r≠.Set es k p) (hl:cX W C n sc (eval l) dl) (hm:cX W C n sc (eval m) dm) (hr:cX W C n sc (eval r) dr) :
  nv W C n sc (fun env=>isTrue (.Compare l [op,op'] [m,r] pos) env (eval (.Compare l [op,op'] [m,r] pos) env)) (m5 op op' dl dm dr):=by
 intro A env F G ρ s Q E hA S st q
 show wpAny _ _ (isTrue (.Compare l [op,op'] [m,r] pos) env _) _ _ _
 rw [arm_isTrue_Compare]
 have e0:markedEach [op,op'] [m,r] (evalEach [m,r] env)=[eval m env,eval r env]:=by
  show [eval m env,markedBehindIn op' r (eval r env)]=_
  rw [markedBehindIn_of_false (vD hr')]
 rw [e0]
 refine ac (ax (hl A env F G ρ s _ E hA S st q) (fun a s₁ h'1=>?_) am)
 obtain ⟨ta,F'1,ρ1,q,st1,y'1,ra⟩:=h'1
 show wpAny _ _ (do
  let rv ← holding [a] (eval m env)
  standAt pos
  let c ← holding [a,rv] (compareOp op a rv)
  release [a,rv] [c]
  if ← holding [c,rv] (truthy c) then (do
   let rv' ← holding [rv] (eval r env)
   standAt pos
   let c ← operate [rv,rv'] (compareOp op' rv rv')
   holding [c] (truthy c)) else pure false) _ _ _
 refine ac (b5 (ax (hm A env F'1 G ρ1 s₁ _ E hA S st1 q) (fun b s₂ h'2=>?_) am))
 obtain ⟨tb',F'2,ρ2,q,st2,y'2,rb⟩:=h'2
 obtain ⟨t,ht,q⟩:=aW q
 refine ac (dI (ac (b5 (ax (yI hA.u (y'2.step.vr st1 ra).q rb.q ht) (fun v s'3 h'3=>?_) am))))
 obtain ⟨rfl,tk,rfl⟩:=h'3
 obtain ⟨st3,y'3⟩:=st2.toks tk
 refine ac (lA (ac (b5 (wpAny_truthy_bool ?_))))
 induction t with
 | false=>exact al ⟨F'2,ρ2,q,st3,(y'1.trans y'2).trans y'3⟩
 | true=>
  refine ac (b5 (ax (hr A env F'2 G ρ2 _ _ E hA S st3 q) (fun c s'4 h'4=>?_) am))
  obtain ⟨tc,F'4,ρ4,q,st4,y'4,rc⟩:=h'4
  obtain ⟨u,hu,q⟩:=aW q
  refine ac (dI (ac (wpAny_operating (ax (yI hA.u (y'4.step.vr st3 rb).q rc.q hu) (fun v s'5 h'5=>?_) am))))
  obtain ⟨rfl,tk',rfl⟩:=h'5
  obtain ⟨st5,y'5⟩:=st4.toks tk'
  exact b5 (wpAny_truthy_bool ⟨F'4,ρ4,q,st5,(((y'1.trans y'2).trans y'3).trans y'4).trans y'5⟩)
end
end
section
section
variable {W:Wd} {C:aC} {n:Nat} {sc:Scope}
theorem HH {x:Expr} {d:SB} (h:nv W C n sc (fun env=>isTrue x env (eval x env)) d):nv W C n sc (fun env=>isTrue (.UnaryOp .Not x pos) env (eval (.UnaryOp .Not x pos) env)) (qD d):=by
 intro A env F G ρ s Q E hA S st q
 exact wpAny_isTrue_Not (ax (h A env F G ρ s _ E hA S st q) (fun b s₁ ⟨x,y,h1,h2,h3⟩=>⟨x,y,h1,h2,h3⟩) am)
theorem IP {op:BoolOp}:nv W C n sc (fun env=>allTrue op [] env) (match op with | .And=>aI | .Or=>nP):=by
 intro A env F G ρ s Q E hA S st q
 show wpAny _ _ (allTrue op [] env) _ _ _
 rw [arm_allTrue_nil]
 induction op<;>exact al ⟨F,ρ,q,st,.refl⟩
theorem F5 {op:BoolOp} {e:Expr} {a r:SB} (h:nv W C n sc (fun env=>isTrue e env (eval e env)) a) (hr:nv W C n sc (fun env=>allTrue op es env) r) :
  nv W C n sc (fun env=>allTrue op (e::es) env) (CX op a r):=by
 intro A env F G ρ s Q E hA S st q
 show wpAny _ _ (allTrue op (e::es) env) _ _ _
 rw [arm_allTrue_cons]
 induction op with
 | And=>
  refine ac (ax (h A env F G ρ s _ E hA S st q) (fun b s₁ h'1=>?_) am)
  obtain ⟨F'1,ρ1,q,st1,y'1⟩:=h'1
  induction b with
  | true=>exact ax (hr A env F'1 G ρ1 s₁ _ E hA S st1 q) (fun _ _ z=>z.after y'1) am
  | false=>exact al ⟨F'1,ρ1,q,st1,y'1⟩
 | Or=>
  refine ac (ax (h A env F G ρ s _ E hA S st q) (fun b s₁ h'1=>?_) am)
  obtain ⟨F'1,ρ1,q,st1,y'1⟩:=h'1
  induction b with
  | true=>exact al ⟨F'1,ρ1,q,st1,y'1⟩
  | false=>exact ax (hr A env F'1 G ρ1 s₁ _ E hA S st1 q) (fun _ _ z=>z.after y'1) am
theorem IS {test body orelse:Expr} {c a b:SB} (hc:nv W C n sc (fun env=>isTrue test env (eval test env)) c) (ha:nv W C n sc (fun env=>isTrue body env (eval body env)) a) (hb:nv W C n sc (fun env=>isTrue orelse env (eval orelse env)) b) :
  nv W C n sc (fun env=>isTrue (.IfExp test body orelse pos) env (eval (.IfExp test body orelse pos) env)) (Jl c a b):=by
 intro A env F G ρ s Q E hA S st q
 show wpAny _ _ (isTrue (.IfExp test body orelse pos) env _) _ _ _
 rw [arm_isTrue_IfExp]
 refine ac (ax (hc A env F G ρ s _ E hA S st q) (fun t s₁ h'1=>?_) am)
 obtain ⟨F'1,ρ1,q,st1,y'1⟩:=h'1
 induction t with
 | true=>exact ax (ha A env F'1 G ρ1 s₁ _ E hA S st1 q) (fun _ _ z=>z.after y'1) am
 | false=>exact ax (hb A env F'1 G ρ1 s₁ _ E hA S st1 q) (fun _ _ z=>z.after y'1) am
theorem A9 {e:Expr} (h:Ge W C n sc (eval e) o) (he:∀ env,isTrue e env (eval e env)=(do let v ← eval e env;standAt e.pos;holding [v] (truthy v))):nv W C n sc (fun env=>isTrue e env (eval e env)) (cQ o):=by
 intro A env F G ρ s Q E hA S st q
 refine wpAny_isTrue_value (ax (h A env F G ρ s _ E hA S st q) (fun v s₁ h'1=>?_) am) (he env)
 obtain ⟨t,F'1,ρ1,q,st1,y'1,r⟩:=h'1
 obtain ⟨b,hb,q⟩:=aW q
 refine ax (r8 r hb) (fun b' s₂ h'2=>?_) am
 obtain ⟨rfl,tk,rfl⟩:=h'2
 obtain ⟨st2,y'2⟩:=st1.toks tk
 exact ⟨F'1,ρ1,q,st2,y'1.trans y'2⟩
theorem IR:xS W C n sc [] ak:=by
 intro pos A env F G ρ s Q E hA S st q
 exact Calls.spliced_nil ⟨[],F,ρ,rfl,q,st,.refl,.nil⟩
theorem dz {e:Expr} (h:cY e=true):backTo pos (starEach (e::es) env)=(false,eval e env)::backTo pos (starEach es env):=by
 cases e<;>first | rfl | exact absurd h bO
theorem Fs {e:Expr} {d:SE} (hn:cY e=true) (h:cX W C n sc (eval e) d) (hs:xS W C n sc es ds):xS W C n sc (e::es) (aa d ds):=by
 intro pos A env F G ρ s Q E hA S st q
 rw [dz hn]
 refine Calls.spliced_cons (ax (h A env F G ρ s _ E hA S st q) (fun v s₁ h'1=>?_) am)
 obtain ⟨t,F'1,ρ1,q,st1,y'1,r⟩:=h'1
 refine ax (hs pos A env F'1 G ρ1 s₁ _ E hA S st1 q) (fun vs s₂ h'2=>?_) am
 obtain ⟨ts,F'2,ρ2,hl,q,st2,y'2,rs⟩:=h'2
 exact ⟨t::ts,F'2,ρ2,by rw [eF,eF,hl],q,st2,y'1.trans y'2,.cons (y'2.step.vr st1 r) rs⟩
theorem Dw (hm:many es=true) (h:xS W C n sc es ds):sq W C n sc (eval (.List es pos)) (bM ds):=by
 intro A env F G ρ s Q E hA S st q
 rw [arm_eval_List]
 refine ac (dI (ac (ax (h pos A env F G ρ s _ E hA S st q) (fun vs s₁ h'1=>?_) am)))
 obtain ⟨ts,F'1,ρ1,hl,q,st1,y'1,r⟩:=h'1
 unfold many at hm
 rw [bC,decide_eq_true_eq] at hm
 have:SZ=1048576:=rfl
 have hv:=r.length
 refine wpAny_newList ?_ (by have:=gG;lia)
 exact (mh.list (tk:=s₁.toks) (n:=0) r (by lia)).opost y'1 st1 q
theorem KO (hm:many es=true) (h:xS W C n sc es ds):cX W C n sc (eval (.Tuple es k pos)) (aO ds):=by
 intro A env F G ρ s Q E hA S st q
 rw [arm_eval_Tuple]
 refine ac (dI (ac (ax (h pos A env F G ρ s _ E hA S st q) (fun vs s₁ h'1=>?_) am)))
 obtain ⟨ts,F'1,ρ1,hl,q,st1,y'1,r⟩:=h'1
 unfold many at hm
 rw [bC,decide_eq_true_eq] at hm
 have:SZ=1048576:=rfl
 have hv:=r.length
 refine wpAny_newTuple ?_ (by have:=gG;lia)
 exact (fG.tup (tk:=s₁.toks) (n:=0) r (by lia)).epost y'1 st1 q
theorem L1 {o i t:T} {vo:Value} {Q:Bool→Shared→Prop} (x:dY W F s.heap o vo) (e:getItem o i=some t∨∃ lo hi,cutT o lo hi=some t) (q:Q false s):wpAny (model W.prog W.w) A (getitemInPython vo) Q E s:=by
 have fin:∀ {T id},s.TypeIs vo T→typeLookup (.type T) "__getitem__"=pure (some (.builtin id))→wpAny (model W.prog W.w) A (getitemInPython vo) Q E s:=fun hT hl=>by
  rw [getitemInPython_of_ne hT.not_modules]
  refine ac (wpAny_specialOf hT hl ?_)
  exact al q
 cases o with
 | list xs=>obtain ⟨vs,a,n,rfl,g,l,r⟩:=x.list_inv;exact fin (pA g).typeIs slot_list_getitem.lookup
 | tup xs=>obtain ⟨vs,a,n,rfl,g,l,r⟩:=x.tup_inv;exact fin (A2 g).typeIs slot_tuple_getitem.lookup
 | dict kvs=>obtain ⟨es,d,ep,rfl,g,_,_,sy,r⟩:=x.dict_inv;exact fin (aA g) slot_dict_getitem.lookup
 | _=>
  rcases e with e | ⟨lo,hi,e⟩
  ·exact nomatch (show (none:Option T)=some t from e)
  ·exact nomatch (show (none:Option T)=some t from e)
theorem MQ {slice:Expr} {vo vi:Value}:∃ l,subscripted slice false vo vi=operate l (PySem.getItem vo vi):=by
 cases slice with
 | Slice a b c p=>induction c<;>exact ⟨_,rfl⟩
 | _=>exact ⟨_,rfl⟩
theorem p6 {slice:Expr} {o i t:T} {vo vi:Value} (x:dY W F s.heap o vo) (e:getItem o i=some t∨∃ lo hi,cutT o lo hi=some t)
  (h:wpAny (model W.prog W.w) A (PySem.getItem vo vi) Q E s):wpAny (model W.prog W.w) A (subscriptTail value slice vo vi) Q E s:=by
 unfold subscriptTail
 refine ac (L1 x e ?_)
 obtain ⟨l,e⟩:∃ l,subscripted slice false vo vi=operate l (PySem.getItem vo vi):=MQ
 rw [e]
 exact ac (wpAny_operating (ax h (fun r s'3 h'3=>ac (wpAny_letTemporaryGo (al h'3))) am))
theorem nX:(∃ x p i,value=.Name x p∧cU sc x=true∧tb.id x=some i∧bf tb sc value (bA tb sc value)=.v i)∨bf tb sc value (bA tb sc value)=.e (bA tb sc value):=by
 induction q:oY tb sc value with
 | none=>exact .inr (by unfold bf;rw [q])
 | some i=>exact ka q fun x p e ho hi=>.inl ⟨x,p,i,e,ho,hi,by unfold bf;rw [q]⟩
theorem cp {i:Nm} {e:bY} (h:first G i=some e):e∈G:=List.mem_of_find?_eq_some h
theorem St.bound (st:St W F G ρ s) {e:bY} (hf:first G i=some e) (hb:isB (ρ.get i)):∃ v,e.pl.Holds s.heap (some v):=by
 have lk:=st.look hf
 induction h:ρ.get i with
 | unb=>rw [h] at hb;exact hb.elim
 | val t=>rw [h] at lk;obtain ⟨v,hv,_⟩:=lk;exact ⟨v,hv⟩
 | own fx t=>rw [h] at lk;obtain ⟨v,hv,_⟩:=lk;exact ⟨v,hv⟩
theorem Kx {slice:Expr} {di:SE} (hv:cX W C n sc (eval value) (bA tb sc value)) (hi:cX W C n sc (eval slice) di):cX W C n sc (eval (.Subscript value slice pos)) (aZ (bf tb sc value (bA tb sc value)) di):=by
 intro A env F G ρ s Q E hA S st q
 rcases nX (sc:=sc) (value:=value) with ⟨x,p,j,rfl,ho,hj,e⟩ | e
 ·rw [e] at q
  obtain ⟨en,hf,ld⟩:=S.loads ho (dg hj)
  obtain ⟨hb,q⟩:=q
  obtain ⟨v,hv'⟩:=st.bound hf hb
  refine Subscript_ (ld hv' ?_)
  refine ax (hi A env F G ρ s _ E hA S st q) (fun vi s₂ h'2=>?_) am
  obtain ⟨ti,F'2,ρ2,q,st2,y'2,ri⟩:=h'2
  obtain ⟨to,v',q,hv2,ro⟩:=st2.peek hf q
  have hvv:v=v':=az ((hv'.keep fun o=>y'2.pl en (cp hf) o).inj hv2)
  subst hvv
  obtain ⟨t,ht,q⟩:=aW q
  exact p6 ro (.inl ht) (ax (qX (by have:=hA.u;lia) ro ri.q ht) (fun v s'3 h'3=>h'3.epost y'2 st2 q) am)
 ·rw [e] at q
  refine Subscript_ (ax (hv A env F G ρ s _ E hA S st q) (fun vo s₁ h'1=>?_) am)
  obtain ⟨to,F'1,ρ1,q,st1,y'1,ro⟩:=h'1
  refine ax (hi A env F'1 G ρ1 s₁ _ E hA S st1 q) (fun vi s₂ h'2=>?_) am
  obtain ⟨ti,F'2,ρ2,q,st2,y'2,ri⟩:=h'2
  obtain ⟨t,ht,q⟩:=aW q
  have ro':=(y'2.step.vr st1 ro).q
  exact p6 ro' (.inl ht) (ax (qX (by have:=hA.u;lia) ro' ri.q ht) (fun v s'3 h'3=>h'3.epost (y'1.trans y'2) st2 q) am)
theorem q6 {lo hi:Option Expr}:eval (.Slice lo hi none p) env=(do
  let l ← valueOrNone (evalOpt lo env)
  let u ← holding [l] (valueOrNone (evalOpt hi env))
  let s ← holding [l,u] (valueOrNone (evalOpt none env))
  newFields "slice" [l,u,s]):=rfl
theorem ww {l u:Value} (q:Q (.ref s.heap.objs.size) { s with heap:=s.heap.push (xZ l u .none) }):wpAny M A (newFields "slice" [l,u,.none]) Q E s:=
 gy q
theorem EE {hi:Expr} {dv dh:SE} (hv:cX W C n sc (eval value) dv) (hh:cX W C n sc (eval hi) dh):cX W C n sc (eval (.Subscript value (.Slice none (some hi) none p) pos)) (vh dv dh):=by
 intro A env F G ρ s Q E hA S st q
 refine Subscript_ (ax (hv A env F G ρ s _ E hA S st q) (fun vo s₁ h'1=>?_) am)
 obtain ⟨to,F'1,ρ1,q,st1,y'1,ro⟩:=h'1
 rw [q6]
 show wpAny _ _ (pure Value.none >>= _) _ _ _
 refine ac (al (ac (b5 (ax (hh A env F'1 G ρ1 s₁ _ E hA S st1 q) (fun vi s₂ h'2=>?_) am))))
 obtain ⟨ti,F'2,ρ2,q,st2,y'2,ri⟩:=h'2
 obtain ⟨h,hh',q⟩:=aW q
 obtain ⟨t,ht,qf⟩:=aW q
 clear q
 refine ac (b5 (al (ww ?_)))
 have hti:=cC hh'
 subst hti
 obtain ⟨u,rfl⟩:=ri.q.int_inv
 have g:b9 F'2 s₂ F'2 { s₂ with heap:=s₂.heap.push (xZ .none (.int h u) .none) }:=b9.push F'2 _ s₂.toks
 obtain ⟨st3,y'3⟩:=st2.grow g
 have ro':=(y'2.step.vr st1 ro).grow g
 exact p6 (i:=.none) ro'.q (.inr ⟨_,_,ht⟩) (ax (MG ro' (Heap.IsSliceOf.new ..) ht) (fun v s'3 h'3=>h'3.epost ((y'1.trans y'2).trans y'3) st3 qf) am)
theorem Mm {lo hi:Expr} {dv dl dh:SE} (hv:cX W C n sc (eval value) dv) (hl:cX W C n sc (eval lo) dl) (hh:cX W C n sc (eval hi) dh):cX W C n sc (eval (.Subscript value (.Slice (some lo) (some hi) none p) pos)) (JF dv dl dh):=by
 intro A env F G ρ s Q E hA S st q
 refine Subscript_ (ax (hv A env F G ρ s _ E hA S st q) (fun vo s₁ h'1=>?_) am)
 obtain ⟨to,F'1,ρ1,q,st1,y'1,ro⟩:=h'1
 rw [q6]
 refine ac (ax (hl A env F'1 G ρ1 s₁ _ E hA S st1 q) (fun vl s₂ h'2=>?_) am)
 obtain ⟨tl,F'2,ρ2,q,st2,y'2,rl⟩:=h'2
 refine ac (b5 (ax (hh A env F'2 G ρ2 s₂ _ E hA S st2 q) (fun vi s'3 h'3=>?_) am))
 obtain ⟨ti,F'3,ρ3,q,st3,y'3,ri⟩:=h'3
 obtain ⟨l,hl',q⟩:=aW q
 obtain ⟨h,hh',q⟩:=aW q
 obtain ⟨t,ht,qf⟩:=aW q
 clear q
 refine ac (b5 (al (ww ?_)))
 have hti:=cC hh'
 have htl:=cC hl'
 subst hti;subst htl
 obtain ⟨u,rfl⟩:=ri.q.int_inv
 obtain ⟨u',rfl⟩:=rl.q.int_inv
 have g:b9 F'3 s'3 F'3 { s'3 with heap:=s'3.heap.push (xZ (.int l u') (.int h u) .none) }:=b9.push F'3 _ s'3.toks
 obtain ⟨st4,y'4⟩:=st3.grow g
 have ro':=(y'3.step.vr st2 (y'2.step.vr st1 ro)).grow g
 exact p6 (i:=.none) ro'.q (.inr ⟨_,_,ht⟩) (ax (IL ro' (Heap.IsSliceOf.new ..) ht) (fun v s'5 h'5=>h'5.epost (((y'1.trans y'2).trans y'3).trans y'4) st4 qf) am)
theorem Fr (hw:gW W) {h:Heap} (hk:∀ b o,W.h0.get? b=some o→h.get? b=some o) (ha:h.get? a=none):(a==sysModules)=false:=by
 obtain ⟨o,ho⟩:=hw.sys
 exact eG.mpr fun e=>by subst e;rw [hk _ _ ho] at ha;exact nomatch ha
theorem E0 (hw:gW W) (hk:∀ b o,W.h0.get? b=some o→s.heap.get? b=some o) {tk:Nat}:mh W F s (.dict []) (.ref s.heap.objs.size) { s with heap:=s.heap.push (aL [] 0),toks:=tk }:=
 ⟨[s.heap.objs.size],b9.push F _ tk,.dict rfl (dG _ rfl) (ck _) ⟨cK,Fr hw hk (aS _)⟩ .nil,by simp,fun a h=>by rw [aV.mp h];exact aS _⟩
theorem BQ (hw:gW W):sq W C n sc (eval (.Dict [] [] pos)) dP:=by
 intro A env F G ρ s Q E hA S st q
 rw [arm_eval_Dict]
 refine ac (dI ?_)
 show wpAny _ _ (newDict) _ _ _
 refine gy ?_
 exact (E0 hw st.world (tk:=s.toks)).opost .refl st q
theorem CD (hw:gW W) {k v:Expr} {dk dv:SE} (hk:cX W C n sc (eval k) dk) (hv:cX W C n sc (eval v) dv):sq W C n sc (eval (.Dict [some k] [v] pos)) (rH dk dv):=by
 intro A env F G ρ s Q E hA S st q
 rw [arm_eval_Dict]
 refine ac (dI ?_)
 have e0:dictDisplay ((evalEachOpt [some k] env).zip ((evalEach [v] env).map fun v=>do let x ← v;standAt pos;pure x))=(do let d ← subDict [(eval k env,do let x ← eval v env;standAt pos;pure x)];pure (.ref d)):=
  dictDisplay_pairs [(eval k env,do let x ← eval v env;standAt pos;pure x)] (by simp) (by simp)
 rw [e0]
 unfold subDict
 refine ac (ac (wpAny_alloc ?_))
 obtain ⟨st1,y'1⟩:=st.grow (s':={ s with heap:=s.heap.push (aL [] 0) }) (b9.push F (aL [] 0) s.toks)
 have hn:s.heap.get? s.heap.objs.size=none:=aS _
 have hg:({ s with heap:=s.heap.push (aL [] 0) }:Shared).heap.get? s.heap.objs.size=some (aL [] 0):=dG _ rfl
 refine ac (b5 ?_)
 rw [au (by simp)]
 unfold evalPairs
 refine ac (ac (ax (hk A env F G ρ _ _ E hA S st1 q) (fun vk s₂ h'2=>?_) am))
 obtain ⟨tk,F'2,ρ2,q,st2,y'2,rk⟩:=h'2
 refine ac (b5 (ac (ax (hv A env F'2 G ρ2 s₂ _ E hA S st2 q) (fun vv s'3 h'3=>ac (dI (al ?_))) am)))
 obtain ⟨tv,F'3,ρ3,q,st3,y'3,rv⟩:=h'3
 obtain ⟨key,hkey,q⟩:=aW q
 unfold evalPairs
 refine ac (b5 (al (al ?_)))
 refine b5 ?_
 show wpAny _ _ (forIn [(vk,vv)] _ _ >>= _) _ _ _
 rw [List.forIn_cons]
 have y13:=(y'1.trans y'2).trans y'3
 obtain ⟨o1,o2⟩:=mc st y13 hn
 obtain ⟨p1,p2⟩:=mc st y'1 hn
 obtain ⟨p3,p4⟩:=mc st (y'1.trans y'2) hn
 have hg'2:s₂.heap.get? s.heap.objs.size=some (aL [] 0):=y'2.step.keep _ _ hg p1 p2
 have hg3:s'3.heap.get? s.heap.objs.size=some (aL [] 0):=y'3.step.keep _ _ hg'2 p3 p4
 have nF:¬ F'3 s.heap.objs.size:=fun f=>by
  rcases y'3.step.freshF _ f with z | z | z
  ·rcases y'2.step.freshF _ z with z | z | z
   ·obtain ⟨o,h⟩:=st.live _ z;rw [hn] at h;exact nn h
   ·rw [hg] at z;exact nomatch z
   ·exact p1 z
  ·rw [hg'2] at z;exact nomatch z
  ·exact p3 z
 have rk':=y'3.step.vr st2 rk
 refine ac (ac (ac (pU (k:=key) (kvs:=[]) (t:=tv) (by have:=hA.u;lia) nF hg3 .nil cK rfl (by decide) (gH hkey▸rk') rv fun es' ep' h' tk' hg' hs' r'=>al ?_)))
 show wpAny _ _ (forIn [] _ _) _ _ _
 rw [List.forIn_nil]
 refine al (al (al (al ?_)))
 have kp:∀ b o,b≠s.heap.objs.size→s'3.heap.get? b=some o→h'.get? b=some o:=fun b o hb e=>(hs'.2 b hb).trans e
 have lO:∀ a∈bk G ρ3,a≠s.heap.objs.size:=fun a m z=>o1 (z▸m)
 have st4:St W F'3 G ρ3 { s'3 with heap:=h',toks:=tk' }:=⟨st3.env.imp fun e he sl hsl r=>r.imp (fun v z=>z.keep fun o=>kp _ o (o2 e he)) (fun _ f=>f) fun a o c=>kp a o (fun z=>c.elim (fun f=>nF (z▸f)) fun m=>lO a (hsl a m) z),
  fun b o e=>kp b o (fun z=>by have:=st.world b o e;rw [z,hn] at this;exact nn this) (st3.world b o e),st3.base,fun a f=>let ⟨o,h⟩:=st3.live a f;⟨o,kp a o (fun z=>nF (z▸f)) h⟩,st3.places,st3.nodup,st3.ownF,st3.ownP,st3.plF,st3.new,st3.newP,st3.fix.imp fun e he v z=>z.keep fun o=>kp _ o (o2 e he)⟩
 have y'4:b2 F G ρ s F'3 ρ3 { s'3 with heap:=h',toks:=tk' }:=⟨⟨y13.step.gens,y13.step.os,y13.step.mono,fun b o e h1 h2=>kp b o (fun z=>by rw [z,hn] at e;exact nn e) (y13.step.keep b o e h1 h2),y13.step.freshF,y13.step.freshO,fun b hb=>by
   by_cases z:b=s.heap.objs.size
   ·rw [z];exact hn
   ·exact y13.step.lives b ((hs'.2 b z).symm.trans hb),y13.step.sh⟩,fun e he o h=>kp _ o (o2 e he) (y13.pl e he o h),y13.own⟩
 exact ⟨.dict [(key,tv)],F'3,ρ3,[s.heap.objs.size],q,st4,y'4,.dict rfl hg' (show 1≤SZ by decide) ⟨by simp,Fr hw st.world hn⟩ r',by simp,fun a h=>by rw [aV.mp h];exact ⟨hn,nF⟩⟩
end
end
section
section
variable {W:Wd} {F:Addr→Prop} {h:Heap}
theorem DH {u:Tok} (hx:bp i x) (hy:bp j y):(Value.str y u).isStr x=(j==i):=by
 show (y==x)=_
 exact Bool.eq_iff_iff.mpr (bm.trans ((Iff.intro (fun z=>hy.inj (z▸hx)) fun z=>by subst z;exact hy.fn hx).trans bm.symm))
theorem Br {p:Nat×T} {a:Nat}:xB (p::fs) a=if p.1==a then some p.2 else xB fs a:=by
 unfold xB;rw [List.find?_cons]
 cases p.1==a<;>rfl
inductive Fn (W:Wd) (F:Addr→Prop) (h:Heap):Option T→Option DictEntry→Prop where
 | some (t:T) (e:DictEntry) (r:VR W F h t e.val):Fn W F h (some t) (some e)
 | none:Fn W F h none none
theorem j3.find {a:Nat} (ha:bp a x):∀ {es:List DictEntry},j3 W F h fs es→Fn W F h (xB fs a) (es.find? (·.key.isStr x)):=by
 induction fs with
 | nil=>intro es r;rw [r.inv0];exact .none
 | cons p fs ih=>
  intro es r
  obtain ⟨y,u,e,es,hn,hk,rv,rs⟩:=j3.inv (i:=p.1) (t:=p.2) r
  rw [Br,List.find?_cons,hk,DH ha hn]
  induction p.1==a with
  | true=>exact .some _ _ rv
  | false=>exact ih rs
theorem j3.noRef:∀ {es:List DictEntry},j3 W F h fs es→es.any (·.refKey)=false:=by
 induction fs with
 | nil=>intro es r;rw [r.inv0];rfl
 | cons p fs ih=>
  intro es r
  obtain ⟨y,u,e,es,hn,hk,_,rs⟩:=j3.inv (i:=p.1) (t:=p.2) r
  rw [List.any_cons,ih rs,Bool.or_false];unfold DictEntry.refKey;rw [hk]
inductive FC (W:Wd) (F:Addr→Prop) (h:Heap):Option T→Option (Option Value)→Prop where
 | some (t:T) (v:Value) (r:VR W F h t v):FC W F h (some t) (some (some v))
 | none:FC W F h none (some none)
theorem j3.look {es:List DictEntry} (r:j3 W F h fs es) {a:Nat} (ha:bp a x):FC W F h (xB fs a) (lookIn x (aL es ep)):=by
 have n:=r.noRef
 have:=j3.find ha r
 have e:lookIn x (aL es ep)=match es.find? (·.key.isStr x) with
  | some e=>some (some e.val)
  | none=>if es.any (·.refKey) then none else some none:=by
  unfold lookIn
  simp
  rfl
 rw [e,n]
 generalize xB fs a=o at this ⊢
 generalize es.find? (·.key.isStr x)=o' at this ⊢
 induction this with
 | some t e r=>exact .some _ _ r
 | none=>exact .none
end
section
variable {W:Wd} {F:Addr→Prop} {s:Shared} {A:Around} {E:Value→Shared→Prop}
theorem Bm {t:T} {h:Heap} (x:VR W F h t v):handedIn v=true:=by
 cases t with
 | none=>rw [x.q.none_inv];rfl
 | bool _=>rw [x.q.bool_inv];rfl
 | int _=>obtain ⟨t,h⟩:=x.q.int_inv;rw [h];rfl
 | str _=>obtain ⟨y,t,h,_⟩:=x.q.str_inv;rw [h];rfl
 | tup _=>obtain ⟨_,_,_,h,_⟩:=x.tup_inv;rw [h];rfl
 | list _=>obtain ⟨_,_,_,h,_⟩:=x.list_inv;rw [h];rfl
 | dict _=>obtain ⟨_,_,_,h,_⟩:=x.q.dict_inv;rw [h];rfl
 | set _=>obtain ⟨_,h,_⟩:=x.q.set_inv;rw [h];rfl
 | dvals _=>obtain ⟨_,_,_,_,h,_⟩:=x.q.dvals_inv;rw [h];rfl
 | rng _=>obtain ⟨_,_,_,_,h,_⟩:=x.q.rng_inv;rw [h];rfl
 | inst _ _=>obtain ⟨_,_,_,_,h,_⟩:=x.q.inst_inv;rw [h];rfl
theorem uS {c:Nat} {es:List DictEntry} {dx:Addr} {h:Heap} (g:h.get? a=some (instObj (W.ca c) dx)) (g':h.get? dx=some (aL es ep)):InstAt h a (instObj (W.ca c) dx) (W.ca c) (some (aL es ep)):=
 ⟨g,rfl,rfl,g'⟩
theorem HG (hw:gW W) (hk:∀ b o,W.h0.get? b=some o→s.heap.get? b=some o) {o t:T} {a:Nat} (ha:bp a x) (r:dY W F s.heap o v) (e:EN o a=some t):wpAny (model W.prog W.w) A (getAttr v x true) (fG W F s t) E s:=by
 refine dw e fun p hp e=>sr e fun hf e=>?_
 obtain ⟨es,ad,dx,ep,rfl,g,g',l,rr⟩:=(qa hp▸r).inst_inv
 have K:=hw.cls p.1 (ua hf)
 obtain ⟨cd,hcd,hd⟩:=K.cd
 have L:=rr.look (ep:=ep) ha
 rw [e] at L
 generalize q:lookIn x (aL es ep)=lk at L
 obtain ⟨_,v,h3⟩:=L
 refine get_value (hw.K.keeps hk) (uS g g') K.ga ?_ (Bm h3) (.of_toks h3)
 unfold findObj
 rw [hcd,fR,K.fld a x (fH.mp hf) ha,fR]
 show ((some none:Option (Option Value)).bind _)=_
 rw [fR]
 show ((some false:Option Bool).bind _)=_
 rw [fR]
 unfold PySem.W.ownOf
 rw [hd,au rfl]
 dsimp only
 rw [q]
 rfl
end
section
variable {W:Wd} {C:aC} {n:Nat} {sc:Scope}
noncomputable def qF (o:Expr) (x:Str) (env:PySem.Env) (t:Sem Value):Prop:=fg o=true→attributeBase o x env t=t
theorem qF.r {o:Expr} {t:Sem Value} (h:attributeBase o x env t=t):qF o x env t:=fun _=>h
theorem rZ {o:Expr} {t:Sem Value}:qF o x env t:=by
 refine Expr.casesOn (motive_1:=fun o=>qF o x env t) o ?_ ?_ ?_ ?_ ?_ ?_ ?_ ?_ ?_ ?_ ?_ ?_ ?_ ?_ ?_ ?_ ?_ ?_ ?_ ?_ ?_ ?_ ?_ ?_ ?_ ?_ ?_<;>intros<;>first
  | exact .r rfl
  | skip
 induction args with
 | cons=>refine Expr.casesOn (motive_1:=fun f=>qF (.Call f _ keywords pos) x env t) func ?_ ?_ ?_ ?_ ?_ ?_ ?_ ?_ ?_ ?_ ?_ ?_ ?_ ?_ ?_ ?_ ?_ ?_ ?_ ?_ ?_ ?_ ?_ ?_ ?_ ?_ ?_<;>intros<;>exact .r rfl
 | nil=>induction keywords with
  | cons=>refine Expr.casesOn (motive_1:=fun f=>qF (.Call f [] _ pos) x env t) func ?_ ?_ ?_ ?_ ?_ ?_ ?_ ?_ ?_ ?_ ?_ ?_ ?_ ?_ ?_ ?_ ?_ ?_ ?_ ?_ ?_ ?_ ?_ ?_ ?_ ?_ ?_<;>intros<;>exact .r rfl
  | nil=>refine Expr.casesOn (motive_1:=fun f=>qF (.Call f [] [] pos) x env t) func ?_ ?_ ?_ ?_ ?_ ?_ ?_ ?_ ?_ ?_ ?_ ?_ ?_ ?_ ?_ ?_ ?_ ?_ ?_ ?_ ?_ ?_ ?_ ?_ ?_ ?_ ?_<;>intros<;>first | exact .r rfl | exact fun h=>bt h
set_option tactic.hygienic true in
theorem Hn (hw:gW W) (hv:Ge W C n sc (eval value) o):cX W C n sc (eval (.Attribute value x pos)) (yJ tb x value o):=by
 unfold yJ
 split
 ·rename_i hb
  split
  ·rename_i a ha
   intro A env F G ρ s Q E hA S st q
   rw [arm_eval_Attribute,rZ hb]
   refine ac (ax (hv A env F G ρ s _ E hA S st q) (fun v s₁ h'1=>?_) am)
   obtain ⟨t,F'1,ρ1,q,st1,y'1,r⟩:=h'1
   obtain ⟨t',ht,q⟩:=aW q
   refine ac (dI (ac (b5 (ax (HG hw st1.world (dg ha) r ht) (fun u s₂ h'2=>?_) am))))
   exact ac (wpAny_letTemporaryGo (al (h'2.epost y'1 st1 q)))
  ·exact bad
 ·exact bad
end
end
section
noncomputable def z9:Bi→Value
 | .len=>.builtin "len" | .sorted=>.builtin "sorted" | .abs=>.builtin "abs" | .all=>.builtin "all"
 | .tuple=>.type "tuple" | .list=>.type "list" | .dict=>.type "dict" | .set=>.type "set" | .int=>.type "int" | .range=>.type "range"
theorem Dv (hw:gW W) {b:Bi} (h:Bx x=some b):W.mg x=none∧W.mb x=some (z9 b):=by
 refine cps fun G k=>?_
 refine kz h (fun e z=>k (by rw [e,← az z];exact hw.bn "len" (by decide))) fun h=>?_
 refine kz h (fun e z=>k (by rw [e,← az z];exact hw.bn "sorted" (by decide))) fun h=>?_
 refine kz h (fun e z=>k (by rw [e,← az z];exact hw.bt "tuple" (by decide))) fun h=>?_
 refine kz h (fun e z=>k (by rw [e,← az z];exact hw.bt "list" (by decide))) fun h=>?_
 refine kz h (fun e z=>k (by rw [e,← az z];exact hw.bt "dict" (by decide))) fun h=>?_
 refine kz h (fun e z=>k (by rw [e,← az z];exact hw.bt "set" (by decide))) fun h=>?_
 refine kz h (fun e z=>k (by rw [e,← az z];exact hw.bn "abs" (by decide))) fun h=>?_
 refine kz h (fun e z=>k (by rw [e,← az z];exact hw.bt "int" (by decide))) fun h=>?_
 refine kz h (fun e z=>k (by rw [e,← az z];exact hw.bt "range" (by decide))) fun h=>?_
 exact ifs h fun e z=>k (by rw [e,z];exact hw.bn "all" (by decide))
section
variable {W:Wd} {F:Addr→Prop} {s:Shared} {A:Around} {E:Value→Shared→Prop}
theorem Nh (hw:gW W) (hk:∀ b o,W.h0.get? b=some o→s.heap.get? b=some o) (hF:∀ a,F a→∃ o,s.heap.get? a=some o) (hA:A.handled=none) (hu:A.units+100 < cLine) {b:Bi} {a t:T} (x:dY W F s.heap a v) (e:bi b a=some t) :
  wpAny (model W.prog W.w) A (call (z9 b) [v]) (fG W F s t) E s:=by
 induction b with
 | len=>
  exact eT e fun n hn z=>z▸ax (Lk x hn) (fun _ _ z=>z.res) am
 | sorted=>exact Bo hA hu hF x e
 | tuple=>exact FG x e
 | list=>exact Io x e
 | dict=>exact ax (zV hA hu hF (let ⟨o,ho⟩:=hw.sys;⟨o,hk _ _ ho⟩) x e) (fun _ _ z=>z.res) am
 | set=>exact KZ hA x e
 | abs=>exact KA x e
 | int=>exact Mu x e
 | range=>exact Et x e
 | all=>exact KC hA hu x e
end
section
variable {W:Wd} {C:aC} {n:Nat} {sc:Scope}
theorem ud {f:Value} {t:Sem Value} {Q:Args→Shared→Prop} (h:wpAny M A t (fun v s₁=>Q ⟨[v],[]⟩ s₁) E s):wpAny M A (evalArgs f true [(false,t)] []) Q E s:=
 Calls.evalArgs_plain (Calls.spliced_cons (ax h (fun _ _ z=>Calls.spliced_nil z) am))
theorem E7 {b:Bi} {t:Sem Value} (h:wpAny M A t (fun v s₁=>wpAny M A (call (z9 b) [v]) Q E s₁) E s):wpAny M A (callWith pos (z9 b) [] [(false,t)] []) Q E s:=by
 induction b<;>first
  | exact Calls.callWith_builtin rfl (ud h)
  | exact PyProof.Rows.callWith_type rfl (ud h)
theorem Nu (hw:gW W) {f:Str} {arg:Expr} {b:Bi} (hg:cw sc f=true) (hd:(f==("__debug__":Str))=false) (hn:cY arg=true) (hb:Bx f=some b) (ha:Ge W C n sc (eval arg) o) :
  cX W C n sc (eval (.Call (.Name f p) [arg] [] pos)) (bW b o):=by
 intro A env F G ρ s Q E hA S st q
 refine Call_Name rfl (S.gets hg hd hw st.world (.inr (Dv hw hb)) ?_)
 rw [dz hn]
 refine E7 (ax (ha A env F G ρ s _ E hA S st q) (fun v s₁ h'1=>?_) am)
 obtain ⟨t,F'1,ρ1,q,st1,y'1,r⟩:=h'1
 obtain ⟨t',ht,q⟩:=aW q
 exact ax (Nh hw st1.world st1.live hA.handled hA.u r ht) (fun u s₂ h'2=>h'2.epost y'1 st1 q) am
theorem yo (hw:gW W) {f:Str} {arg:Expr} (hg:cw sc f=true) (hd:(f==("__debug__":Str))=false) (hn:cY arg=true) (hb:Bx f=some .dict) (ha:Ge W C n sc (eval arg) o) :
  sq W C n sc (eval (.Call (.Name f p) [arg] [] pos)) (bW .dict o):=by
 intro A env F G ρ s Q E hA S st q
 refine Call_Name rfl (S.gets hg hd hw st.world (.inr (Dv hw hb)) ?_)
 rw [dz hn]
 refine E7 (ax (ha A env F G ρ s _ E hA S st q) (fun v s₁ h'1=>?_) am)
 obtain ⟨t,F'1,ρ1,q,st1,y'1,r⟩:=h'1
 obtain ⟨t',ht,q⟩:=aW q
 exact ax (zV hA.handled hA.u st1.live (let ⟨o,ho⟩:=hw.sys;⟨o,st1.world _ _ ho⟩) r ht) (fun u s₂ h'2=>h'2.opost y'1 st1 q) am
end
end
section
theorem o8 [BEq α] [LawfulBEq α] {x:α} {xs:List α}:∀ {vs:List β},x∉xs→(xs.zip vs).lookup x=none:=by
 induction xs with
 | nil=>exact fun _=>rfl
 | cons a xs ih=>
  intro vs h
  induction vs with
  | nil=>rfl
  | cons v vs=>
   have h:=not_or.mp fun k=>h (aU.mpr k)
   rw [List.zip_cons_cons,jb,eG.mpr h.1]
   exact ih h.2
theorem ic [BEq α] [LawfulBEq α] {x:α} {v:β} {xs:List α}:∀ {vs:List β} {i:Nat},xs.Nodup→xs[i]? = some x→vs[i]? = some v→(xs.zip vs).lookup x=some v:=by
 induction xs with
 | nil=>intro vs i _ h;exact nn h
 | cons a xs ih=>
  intro vs i hn hx hv
  induction vs with
  | nil=>exact nn hv
  | cons v' vs=>
   rw [List.zip_cons_cons,jb]
   induction i with
   | zero=>rw [← az hx,beq_self_eq_true];exact hv
   | succ i=>
    have hn:=cP.mp hn
    have hx:xs[i]? = some x:=hx
    rw [eG.mpr fun e:x=a=>hn.1 (e▸List.mem_of_getElem? hx)]
    exact ih hn.2 hx hv
theorem no (l:List (Str×β)):∀ {vs:List β},xs.length=vs.length→(∀ (i:Nat) (x:Str) (v:β),xs[i]? = some x→vs[i]? = some v→l.lookup x=some v)→xs.filterMap (fun n=>(l.lookup n).map (n,·))=xs.zip vs:=by
 induction xs with
 | nil=>exact fun _ _=>rfl
 | cons x xs ih=>
  intro vs h k
  induction vs with
  | nil=>exact nomatch h
  | cons v vs=>
   rw [List.filterMap_cons,k 0 x v rfl rfl]
   exact aw _ (ih (Nat.succ.inj h) fun i a b ha hb=>k (i+1) a b ha hb)
theorem lookup_append [BEq α] [LawfulBEq α] {l r:List (α×β)} {x:α}:(l++r).lookup x=(l.lookup x).or (r.lookup x):=List.lookup_append
theorem ER {l r:List (Str×Value)} {p:Str×Value}:((if (l.lookup p.1).isNone=true then l++[p] else l).lookup x).or (r.lookup x)=(l.lookup x).or ((p::r).lookup x):=by
 obtain ⟨n,v⟩:=p
 rw [jb]
 induction hl:l.lookup n with
 | none=>
  rw [au (show (none:Option Value).isNone=true from rfl),List.lookup_append,jb,List.lookup_nil,Option.or_assoc]
  cases x==n<;>rfl
 | some u=>
  rw [av (show ¬ (some u).isNone=true from bO)]
  induction hx:x==n with
  | false=>rfl
  | true=>rw [eq_of_beq hx,hl];rfl
theorem Cd {Q:List (Str×Value)→Shared→Prop} (f:Str×Value→List (Str×Value)→Sem (ForInStep (List (Str×Value))))
  (hf:∀ p l,f p l=pure (.yield (if (l.lookup p.1).isNone then l++[p] else l))) (ps:List (Str×Value)):∀ (l:List (Str×Value)),
  (∀ l',(∀ x,l'.lookup x=(l.lookup x).or (ps.lookup x))→Q l' s)→wpAny M A (forIn ps l f) Q E s:=by
 induction ps with
 | nil=>intro l q;exact al (q l fun x=>Option.or_none.symm)
 | cons p ps ih=>
  intro l q
  rw [List.forIn_cons,hf]
  exact ac (al (ih _ fun l' h'=>q l' fun x=>(h' x).trans ER))
theorem vq (hn:xs.Nodup) (h:k≤vals.length):(xs.take k).filter (fun n=>((xs.zip vals).lookup n).isNone)=[]:=by
 rw [List.filter_eq_nil_iff]
 intro x hx
 obtain ⟨i,hi⟩:=List.mem_iff_getElem?.mp hx
 rw [List.getElem?_take] at hi
 refine sr hi fun hlt hi=>?_
 rw [ic hn hi (cj (gB hlt h))];exact bO
theorem Fk {xs:List α}:∀ {vs:List β},xs.zip vs=(xs.take vs.length).zip vs:=by
 induction xs with
 | nil=>intro vs;rw [List.take_nil]
 | cons x xs ih=>intro vs;induction vs with
  | nil=>rfl
  | cons v vs=>exact aw _ ih
theorem Ju {a d p:Nat} (h1:a≤p) (h2:p≤a+d):a+(d - (d - (p - a)))=p:=by rw [Nat.sub_sub_self (Nat.sub_le_iff_le_add'.mpr h2),Nat.add_sub_cancel' h1]
theorem Qk {v d x:Nat} (h1:v≤x) (h2:x≤v+d):x=v+(d - (d - (x - v))):=(Ju h1 h2).symm
theorem Qz {v d x:Nat} (h2:x≤v+d) (h:¬ i < v):x - d≤i:=aH (Nat.sub_le_iff_le_add.mpr h2) (Nat.le_of_not_lt h)
theorem Qw {v d x:Nat} (h1:v≤x) (h2:x≤v+d) (h3:d≤x) (h:¬ i < v):i - (x - d)=d - (x - v)+(i - v):=by
 obtain ⟨a,rfl⟩:=Nat.exists_eq_add_of_le h1
 obtain ⟨j,rfl⟩:=Nat.exists_eq_add_of_le (Nat.le_of_not_lt h)
 obtain ⟨b,rfl⟩:=Nat.exists_eq_add_of_le (Nat.le_of_add_le_add_left h2)
 have hb:b≤v:=Nat.le_of_add_le_add_left (a:=a) (Nat.add_comm v a▸h3)
 rw [Nat.add_sub_cancel_left,Nat.add_sub_cancel_left,Nat.add_sub_cancel_left,Nat.add_comm a b,Nat.add_sub_add_right,Nat.sub_add_comm (Nat.sub_le _ _),Nat.sub_sub_self hb]
theorem BD {ds:List Value} {l':List (Str×Value)} (hn:xs.Nodup) (hl:vals.length≤xs.length) (hl2:xs.length≤vals.length+ds.length) (hl3:ds.length≤xs.length)
  (hl':∀ x,l'.lookup x=((xs.zip vals).lookup x).or (((xs.drop (xs.length - ds.length)).zip ds).lookup x)) :
  xs.filterMap (fun n=>(l'.lookup n).map (n,·))=xs.zip (vals++ds.drop (ds.length - (xs.length - vals.length))):=by
 refine no l' (by rw [bS,List.length_drop];exact Qk hl hl2) fun i x v hx hv=>?_
 rw [hl' x]
 by_cases hi:i < vals.length
 ·rw [List.getElem?_append_left hi] at hv
  rw [ic hn hx hv];rfl
 ·rw [List.getElem?_append_right (Nat.le_of_not_lt hi),List.getElem?_drop] at hv
  have hxl:=(hM.mp hx).1
  have h0:(xs.zip vals).lookup x=none:=by
   rw [Fk]
   refine o8 fun hz=>?_
   obtain ⟨j,hj⟩:=List.mem_iff_getElem?.mp hz
   rw [List.getElem?_take] at hj
   exact sr hj fun hlt hj=>hi ((List.getElem?_inj hxl hn).mp (hx.trans hj.symm)▸hlt)
  rw [h0,Option.none_or]
  refine ic (i:=i - (xs.length - ds.length)) (hn.sublist (List.drop_sublist _ _)) ?_ ?_
  ·rw [List.getElem?_drop,Nat.add_sub_cancel' (Qz hl2 hi)];exact hx
  ·exact (aw (fun k=>ds[k]?) (Qw hl hl2 hl3 hi)).trans hv
structure I0 (p:Arguments) (xs:List Str):Prop where
 names:p.args.map (·.arg)=xs
 pos:p.posonlyargs=[]
 kwo:p.kwonlyargs=[]
 va:p.vararg=none
 kwa:p.kwarg=none
 nodup:xs.Nodup
theorem Gm {fd:FuncData} {ds:List Value} {Q:List (Str×Value)→Shared→Prop} (hp:I0 fd.params xs)
  (hd:∃ r:Option (Array Value),(r.getD #[]).toList=ds∧∀ Q,Q r s→wpAny M A (seqItems? fd.defaults) Q E s) (hl:vals.length≤xs.length) (hl2:xs.length≤vals.length+ds.length) (hl3:ds.length≤xs.length)
  (q:Q (xs.zip (vals++ds.drop (ds.length - (xs.length - vals.length)))) s):wpAny M A (bindArgs fd ⟨vals,[]⟩) Q E s:=by
 obtain ⟨nm,qn,⟨po,ar,va,kwo,kwd,kwa,df⟩,bd,sc,gl,cl,dfl,kd,doc,pm,an,cd,ct⟩:=fd
 obtain ⟨e1,e2,e3,e4,e5,hn⟩:=hp
 subst e1;subst e2;subst e3;subst e4;subst e5
 obtain ⟨r,hr,hs⟩:=hd
 refine ac (m:=forIn ([]:List (Str×Value)) _ _) (al (ac (hs _ ?_)))
 subst hr
 have e0:=Nat.sub_eq_zero_of_le hl3
 refine bD (fun h=>Nat.not_lt.mpr hl (bH (cB.mp h).1)) ?_
 have hm:∀ k,k≤vals.length→(!((((ar.map Arg.arg).take k).filter (fun n=>(((ar.map Arg.arg).zip vals).lookup n).isNone)).isEmpty))=false:=fun k h=>by rw [vq hn h];rfl
 refine bD (fun h=>absurd (h.symm.trans (hm _ ?_)) (by decide)) (ac (Cd _ (fun p l=>?_) _ _ fun l' hl'=>ac (m:=forIn ([]:List Str) _ _) (al (bD bO ?_))))
 ·show (ar.map Arg.arg).length - ((r.getD #[]).toList.drop ((r.getD #[]).toList.length - (ar.map Arg.arg).length)).length≤_
  rw [e0,List.drop_zero];exact Nat.sub_le_of_le_add hl2
 ·cases h:(l.lookup p.1).isNone
  ·simp [h]
  ·simp [h]
 ·refine al ?_
  have hl':∀ x,l'.lookup x=(((ar.map Arg.arg).zip vals).lookup x).or ((((ar.map Arg.arg).drop ((ar.map Arg.arg).length - ((r.getD #[]).toList.drop ((r.getD #[]).toList.length - (ar.map Arg.arg).length)).length)).zip ((r.getD #[]).toList.drop ((r.getD #[]).toList.length - (ar.map Arg.arg).length))).lookup x):=hl'
  rw [e0,List.drop_zero] at hl'
  rw [← BD hn hl hl2 hl3 hl'] at q
  show Q (((ar.map Arg.arg)++[]).filterMap _) s
  rw [cr];exact q
end
section
noncomputable def gM (f:Nat):Nat:=match f0 f with | some fd=>(match fd.ref with | some r=>fd.params.idxOf r | none=>0) | none=>0
noncomputable def rK (W:Wd) (F:Addr→Prop) (h:Heap) (as:List Addr):Option T→Option Value→Prop
 | none,none=>as=[]
 | some t,some v=>gu W F h as t v
 | _,_=>False
noncomputable def pz (p:Nat) (rv:Option Value) (vs:List Value):List Value:=match rv with | none=>vs | some v=>vs.insertIdx p v
structure zw (F:Addr→Prop) (as:List Addr) (s:Shared) (F':Addr→Prop) (s':Shared):Prop where
 gens:s'.gens=s.gens
 os:s'.os=s.os
 keep:∀ b o,b∉as→s.heap.get? b=some o→s'.heap.get? b=some o
 mono:∀ a,F a→F' a
 fresh:∀ a,F' a→F a∨(s.heap.get? a=none∧∃ o,s'.heap.get? a=some o)
theorem zw.grow (x:zw F [] s F' s'):b9 F s F' s':=⟨x.gens,x.os,fun b o=>x.keep b o (by simp),x.mono,x.fresh⟩
structure ON (n:Nat) (A:Around):Prop where
 handled:A.handled=none
 depth:A.depth+2*n≤901
 units:A.units+20*n≤9001
theorem sL.c (h:sL n A):ON n A:=⟨h.handled,by have:=h.depth;lia,by have:=h.units;lia⟩
inductive Ax (W:Wd) (F:Addr→Prop) (as:List Addr) (s:Shared) (rv:Option Value) (Q:T→Option T→Prop) (v:Value) (s':Shared):Prop where
 | mk (t:T) (r':Option T) (F':Addr→Prop) (h1:Q t r') (h2:zw F as s F' s') (h3:VR W F' s'.heap t v) (h4:rK W F' s'.heap as r' rv) (h5:∀ a∈as,¬ F' a)
noncomputable def C9 (E:Value→Shared→Prop) (P:Value→Shared→Prop) (r:Result) (s':Shared):Prop:=match r with
 | .ok (.ret v)=>P v s' | .ok _=>False | .error e=>E e s'
noncomputable def cz (W:Wd) (C:aC) (n:Nat):Prop:=∀ f ts r Q A F s vs rv as E,ON n A→f < 79→(∀ b o,W.h0.get? b=some o→s.heap.get? b=some o)→(∀ a,W.F0 a→F a)→(∀ a,F a→∃ o,s.heap.get? a=some o)→
 bR W F s.heap ts vs→rK W F s.heap as r rv→as.Nodup→(∀ a∈as,¬ F a∧W.h0.get? a=none)→C f ts r Q→
 codeAny (model W.prog W.w) A (.call (.ref (W.fa f)) ⟨pz (gM f) rv vs,[]⟩) (C9 E (Ax W F as s rv Q)) s
theorem cz.wp {C:aC} (h:cz W C n):∀ f ts r Q A F s vs rv as E,sL n A→f < 79→(∀ b o,W.h0.get? b=some o→s.heap.get? b=some o)→(∀ a,W.F0 a→F a)→(∀ a,F a→∃ o,s.heap.get? a=some o)→
 bR W F s.heap ts vs→rK W F s.heap as r rv→as.Nodup→(∀ a∈as,¬ F a∧W.h0.get? a=none)→C f ts r Q→
 wpAny (model W.prog W.w) A (call (.ref (W.fa f)) (pz (gM f) rv vs)) (Ax W F as s rv Q) E s:=
 fun f ts r Q A F s vs rv as E a b c d e f' g h' i j=>wpAny_call (codeAny_mono (h f ts r Q A F s vs rv as E a.c b c d e f' g h' i j) fun r s' z=>by
  rcases r with e | (v | _ | _ | _)
  ·exact z
  ·exact z
  ·exact z
  ·exact z
  ·exact z)
theorem ge {f:Value} {ts:List (Bool×Sem Value)} {Q:Args→Shared→Prop} (hp:ts.any (·.1)=false) (h:wpAny M A (spliced ts) (fun vs s₁=>Q ⟨vs,[]⟩ s₁) E s):wpAny M A (evalArgs f true ts []) Q E s:=by
 induction ts with
 | nil=>
  unfold evalArgs
  show wpAny M A (spliced [] >>= _) Q E s
  refine ac (ax h (fun vs s₁ h'1=>ac (al (b5 ?_))) am)
  exact ac (al (ac (al (al h'1))))
 | cons t ts=>
  obtain ⟨b,t⟩:=t
  rw [List.any_cons,Bool.or_eq_false_iff] at hp
  obtain rfl:b=false:=hp.1
  exact Calls.evalArgs_plain h
theorem fI (h:es.all cY=true):(backTo pos (starEach es env)).any (·.1)=false:=by
 induction es with
 | nil=>rfl
 | cons e es ih=>
  rw [List.all_cons,bC] at h
  rw [dz h.1,List.any_cons,ih h.2];rfl
theorem bu (h:gX es=true):es.all cY=true:=by
 unfold gX at h;rw [bC] at h;exact h.1
section
variable {W:Wd} {C:aC} {n:Nat} {sc:Scope}
theorem pT {f:Nat} {first:List Value} (hw:gW W) (hf:f < 79) (hn:es.all cY=true)
  (h:wpAny (model W.prog W.w) A (spliced (backTo pos (starEach es env))) (fun vs s₁=>(∀ b o,W.h0.get? b=some o→s₁.heap.get? b=some o)∧wpAny (model W.prog W.w) A (call (.ref (W.fa f)) (first++vs)) Q E s₁) E s) :
  ∀ pos',wpAny (model W.prog W.w) A (callWith pos' (.ref (W.fa f)) first (backTo pos (starEach es env)) []) Q E s:=by
 intro pos'
 obtain ⟨p,b,sc',_,K⟩:=hw.fo f hf
 obtain ⟨o,fd,ho,hd,_⟩:=K.obj
 exact Calls.callWith_function (ge (fI hn) (ax h (fun vs s₁ h'1=>⟨⟨h'1.1 _ _ ho,hd⟩,h'1.2⟩) am))
theorem Ek {p:Nat×Option Nat} (h:tb.fn x=some p):dy rQ (li x.cps.toList)=some p∧dy iY p.1=some x:=
 dw (show (dy rQ (li x.cps.toList)).bind (fun p=>if dy iY p.1=some x then some p else none)=some p from h) fun q h1 h2=>ifs h2 fun h3 e=>⟨e▸h1,e▸h3⟩
theorem Dg {p:Nat×Nat} (h:tb.cls x=some p):dy pS (li x.cps.toList)=some p∧dy jO p.1=some x:=
 dw (show (dy pS (li x.cps.toList)).bind (fun p=>if dy jO p.1=some x then some p else none)=some p from h) fun q h1 h2=>ifs h2 fun h3 e=>⟨e▸h1,e▸h3⟩
theorem tB {r:Option Nat} (h:tb.fn x=some (i,r)):i < 79:=by
 have key:rQ.all (fun p=>decide (p.2.1 < 79))=true:=by decide +kernel
 exact bH (aY.mp key _ (dR (Ek h).1))
theorem Ht (hw:gW W) (hC:cz W C n) (hg:cw sc x=true) (hd:(x==("__debug__":Str))=false) (hn:gX args=true) (hi:tb.fn x=some (i,none)) (ha:xS W C n sc args ds) :
  cX W C n sc (eval (.Call (.Name x p) args [] pos)) (aK i ds none):=by
 intro A env F G ρ s Q E hA S st q
 obtain ⟨_,q⟩:=q
 refine Call_Name rfl (S.gets hg hd hw st.world (.inl (hw.fn x i none hi)) ?_)
 refine pT hw (tB hi) (bu hn) (ax (ha pos A env F G ρ s _ E hA S st q) (fun vs s₁ h'1=>?_) am) pos
 obtain ⟨ts,F'1,ρ1,hl,q,st1,y'1,r⟩:=h'1
 refine ⟨st1.world,?_⟩
 refine ax (hC.wp i ts none _ A F'1 s₁ vs none [] E hA (tB hi) st1.world st1.base st1.live r rfl cK (fun a h=>nomatch h) q) (fun v s₂ h'2=>?_) am
 obtain ⟨t,r',F',q,af,rv,_,_⟩:=h'2
 exact fG.epost y'1 st1 ⟨F',af.grow,rv⟩ q
theorem ki (hn:es.all cY=true) (H:∀ e∈es,cX W C n sc (eval e) (bA tb sc e)):xS W C n sc es (kB (fc tb sc es)):=by
 induction es with
 | nil=>exact IR
 | cons e es ih=>
  rw [List.all_cons,bC] at hn
  exact Fs hn.1 (H e (.head _)) (ih hn.2 fun e' h=>H e' (.tail _ h))
inductive FM (W:Wd) (F:Addr→Prop) (G:List bY) (ρ:Env) (s:Shared) (Q:List T→Env→Prop) (p j:Nat):List Value→Shared→Prop where
 | mk (ts:List T) (F':Addr→Prop) (ρ':Env) (us:List Value) (rv:Value) (e:bY) (s':Shared) (h1:p≤us.length) (h2:Q ts ρ') (h3:St W F' G ρ' s') (h4:b2 F G ρ s F' ρ' s') (h5:bR W F' s'.heap ts us) (h6:first G j=some e) (h7:e.pl.Holds s'.heap (some rv)):FM W F G ρ s Q p j (us.insertIdx p rv) s'
theorem St.isB (st:St W F G ρ s) {e:bY} (hf:first G j=some e) (hv:e.pl.Holds s.heap (some v)):isB (ρ.get j):=by
 have lk:=st.look hf
 generalize ρ.get j=sl at lk
 induction sl with
 | unb=>exact nn (lk.inj hv)
 | _=>trivial
noncomputable def OO (W:Wd) (C:aC) (n:Nat) (sc:Scope) (j p:Nat) (args:List Expr) (d:sw):Prop:=∀ pos A env F G ρ s Q E,sL n A→dc W sc env G→St W F G ρ s→isB (ρ.get j)→d C ρ Q→
 wpAny (model W.prog W.w) A (spliced (backTo pos (starEach args env))) (FM W F G ρ s Q p j) E s
theorem Co {pn:Pos} (ho:cU sc y=true) (hj:bp j y) {d:sw} (h:xS W C n sc args d):OO W C n sc j 0 (.Name y pn::args) d:=by
 intro pos A env F G ρ s Q E hA S st hb q
 rw [dz rfl]
 obtain ⟨en,hf,ld⟩:=S.loads ho hj
 obtain ⟨rv,hrv⟩:=st.bound hf hb
 refine Calls.spliced_cons (ld hrv (ax (h pos A env F G ρ s Q E hA S st q) (fun vs s₁ z=>?_) am))
 obtain ⟨ts,F'1,ρ1,hl,q,st1,y'1,r⟩:=z
 exact ⟨ts,F'1,ρ1,vs,rv,en,s₁,ck _,q,st1,y'1,r,hf,hrv.keep fun o=>y'1.pl en (cp hf) o⟩
theorem A8 {p:Nat} (ho:cU sc y=true) (hj:bp j y) {e:Expr} {de:SE} {d:sw} (hn:cY e=true) (he:cX W C n sc (eval e) de) (h:OO W C n sc j p args d):OO W C n sc j (p+1) (e::args) (aa de d):=by
 intro pos A env F G ρ s Q E hA S st hb q
 rw [dz hn]
 refine Calls.spliced_cons (ax (he A env F G ρ s _ E hA S st q) (fun v s₁ z=>?_) am)
 obtain ⟨t,F'1,ρ1,q,st1,y'1,r⟩:=z
 obtain ⟨en,hf,ld⟩:=S.loads ho hj
 obtain ⟨rv,hrv⟩:=st.bound hf hb
 refine ax (h pos A env F'1 G ρ1 s₁ _ E hA S st1 (st1.isB hf (hrv.keep fun o=>y'1.pl en (cp hf) o)) q) (fun vs s₂ z=>?_) am
 obtain ⟨ts,F'2,ρ2,us,rv',en',s₂,hle,q,st2,y'2,rs,hf',hrv'⟩:=z
 exact FM.mk (us:=v::us) (t::ts) F'2 ρ2 rv' en' s₂ (gR hle) q st2 (y'1.trans y'2) (.cons (y'2.step.vr st1 r) rs) hf' hrv'
theorem EQ {pn:Pos} (ho:cU sc y=true) (hj:bp j y):∀ {p:Nat},args[p]? = some (.Name y pn)→args.all cY=true→(∀ e∈args,cX W C n sc (eval e) (bA tb sc e))→OO W C n sc j p args (kB ((fc tb sc args).eraseIdx p)):=by
 induction args with
 | nil=>exact fun hp=>nn hp
 | cons e args ih=>
  intro p hp hn H
  have hn:=cB.mp hn
  induction p with
  | zero=>rw [az hp];exact Co ho hj (ki hn.2 fun e' h=>H e' (.tail _ h))
  | succ p=>exact A8 ho hj hn.1 (H e (.head _)) (ih hp hn.2 fun e' h=>H e' (.tail _ h))
theorem DW {p:Nat} (h:tb.fn x=some (i,some p)):gM i=p:=by
 have key:rQ.all (fun q=>match q.2.2 with | some p=>gM q.2.1==p | none=>true)=true:=by decide +kernel
 exact bm.mp (aY.mp key _ (dR (Ek h).1))
theorem FJ (st:St W F G ρ s) {e:bY} (hf:first G j=some e) {fx:Bool} {t:T} (h:ρ.get j=.own fx t):e.own.Nodup∧∀ a∈e.own,a∈bk G ρ:=by
 obtain ⟨G'1,G'2,ρ1,ρ2,sl,rfl,rfl,hl,hg,hs,hn,_⟩:=st.env.split hf
 rw [h] at hg;subst hg
 have O:bk (G'1++e::G'2) (ρ1++(j,.own fx t)::ρ2)=bk G'1 ρ1++(e.own++bk G'2 ρ2):=by rw [ce hl];rfl
 have nd:=st.nodup
 rw [O] at nd ⊢
 exact ⟨(cD.mp (cD.mp nd).2.1).1,fun a ha=>dq _ (eY _ ha)⟩
theorem y7 (hw:gW W) (hC:cz W C n) {pn:Pos} (hg:cw sc x=true) (hd:(x==("__debug__":Str))=false) (hn:gX args=true) (hi:tb.fn x=some (i,some k))
  (hp:args[k]? = some (.Name y pn)) (ho:cU sc y=true) (hj:bp j y) (H:∀ e∈args,cX W C n sc (eval e) (bA tb sc e)) :
  cX W C n sc (eval (.Call (.Name x p) args [] pos)) (aK i (kB ((fc tb sc args).eraseIdx k)) (some j)):=by
 intro A env F G ρ s Q E hA S st q
 obtain ⟨hb,q⟩:=q
 refine Call_Name rfl (S.gets hg hd hw st.world (.inl (hw.fn x i _ hi)) ?_)
 refine pT hw (tB hi) (bu hn) (ax (EQ ho hj hp (bu hn) H pos A env F G ρ s _ E hA S st hb q) (fun vs s₁ h'1=>?_) am) pos
 obtain ⟨ts,F'1,ρ1,us,rv,en,s₁,hle,q,st1,y'1,r,hf,hrv⟩:=h'1
 refine ⟨st1.world,?_⟩
 have lk:=st1.look hf
 have q:zu C i ts (ρ1.get j) (fun v s=>Q v (ρ1.set j s)):=q
 induction hsl:ρ1.get j with
 | unb=>rw [hsl] at q;exact q.elim
 | val t=>rw [hsl] at q;exact q.elim
 | own fx t=>
  rw [hsl] at q lk
  obtain ⟨v',hv',ro⟩:=lk
  have:rv=v':=az (hrv.inj hv')
  subst this
  obtain ⟨nd,hin⟩:=FJ st1 hf hsl
  have q:C i ts (some t) (fun v t'=>fW t' fun t'=>Q v (ρ1.set j (.own fx t'))):=q
  have e0:[]++us.insertIdx k rv=pz (gM i) (some rv) us:=by rw [DW hi];rfl
  rw [e0]
  refine ax (hC.wp i ts (some t) _ A F'1 s₁ us (some rv) en.own E hA (tB hi) st1.world st1.base st1.live r ro nd (fun a h=>⟨st1.ownF a (hin a h),st1.new a (hin a h)⟩) q) (fun v s₂ h'2=>?_) am
  obtain ⟨tv,r',F',q,af,rv',rr,nF⟩:=h'2
  obtain ⟨t',rfl,q⟩:=aW q
  obtain ⟨st2,y'2⟩:=st1.mutateF hf hsl hrv (show gu W F' s₂.heap en.own t' rv from rr) (fun b o=>af.keep b o) af.gens af.os af.mono af.fresh
  exact ⟨tv,F',_,q,st2,y'1.trans y'2,rv'⟩
theorem Oj {c m f:Nat} (h:mt c m=some f):c < 14∧f < 79:=by
 have key:v8.all (fun p=>decide (p.1 < 14)&&p.2.all fun q=>decide (q.2 < 79))=true:=by decide +kernel
 unfold mt at h
 obtain ⟨l,h1,h2⟩:=kE.mp h
 have a:=aY.mp key _ (dR h1)
 rw [bC,decide_eq_true_eq] at a
 exact ⟨a.1,bH (aY.mp a.2 _ (dR h2))⟩
theorem Kf (h:gX args=true):methodCallForm (args.length+([]:List Keyword).length) (backTo pos (starEach args env)) (backToKw pos (keywordEach [] env))=true:=by
 unfold methodCallForm
 have h1:=fI (env:=env) (pos:=pos) (bu h)
 have h2:(backTo pos (starEach args env)).all (!·.1)=true:=by
  rw [aY];rw [List.any_eq_false] at h1
  intro x hx;have:=h1 x hx;simpa using this
 have h3:args.length < 29:=by unfold gX at h;rw [bC,decide_eq_true_eq] at h;exact h.2
 rw [h2]
 show (true&&(keywordEach [] env).all _&&_)=true
 have:decide (args.length+([]:List Keyword).length+(if (backToKw pos (keywordEach [] env)).isEmpty then 0 else 1) < 30)=true:=br (by
  show args.length+0+0 < 30;lia)
 simp only [Bool.true_and]
 show (true&&_)=true
 rw [Bool.true_and];exact this
theorem J8 {o:Expr} {Q:Pos→Shared→Prop} (h:(ap.endLine==pos.line)=true) (q:Q pos s):wpAny M A (methodCallPos true o env ap pos) Q E s:=by
 unfold methodCallPos
 rw [h]
 exact al q
theorem im {o:Expr} {m:Str} (hb:fg o=true) (hn:gX args=true) (hp:(ap.endLine==pos.line)=true)
  (h:wpAny M A (eval o env) (fun ov s₁=>∀ pl,wpAny M A (getMethod ov m pl) (fun r s₂=>wpAny M A (callWith pos r.1 r.2 (backTo pos (starEach args env)) []) Q E s₂) E s₁) E s) :
  wpAny M A (eval (.Call (.Attribute o m ap) args [] pos) env) Q E s:=by
 rw [arm_eval_Call,rZ hb]
 refine ac (ax h (fun ov s₁ h'1=>ac (dI ?_)) am)
 unfold methodCall
 rw [Kf hn]
 refine ac (b5 ?_)
 unfold calleeOf
 rw [au rfl]
 refine ax (h'1 _) (fun r s₂ h'2=>?_) am
 obtain ⟨f,first⟩:=r
 exact ac (J8 hp h'2)
theorem HB (hw:gW W) (hC:cz W C n) {o:Expr} {m:Str} {d:SE} (hb:fg o=true) (hn:gX args=true) (hp:(ap.endLine==pos.line)=true) (hi:bp i m) (ho:cX W C n sc (eval o) d) (ha:xS W C n sc args ds) :
  cX W C n sc (eval (.Call (.Attribute o m ap) args [] pos)) (cv mt d i ds):=by
 intro A env F G ρ s Q E hA S st q
 refine im hb hn hp (ax (ho A env F G ρ s _ E hA S st q) (fun ov s₁ h'1 pl=>?_) am)
 obtain ⟨to,F'1,ρ1,q,st1,y'1,ro⟩:=h'1
 obtain ⟨f,hf,q⟩:=aW q
 refine dw hf fun p hp hf=>sr hf fun hno hf=>?_
 obtain ⟨hc,hf79⟩:=Oj hf
 have K:=hw.cls p.1 hc
 obtain ⟨es,a,dx,ep,rfl,g,g',l,rr⟩:=(qa hp▸ro).q.inst_inv
 obtain ⟨m1,m2⟩:=K.meth i f m hf hi
 have L:=rr.look (ep:=ep) hi
 rw [Option.isNone_iff_eq_none.mp hno] at L
 have hsh:shadowIn (some (aL es ep)) m=some false:=by
  show (lookIn m (aL es ep)).map (·.isSome)=some false
  generalize lookIn m (aL es ep)=lk at L
  obtain ⟨⟩:=L
  rfl
 refine method_fn (hw.K.keeps st1.world) (uS g g') K.ga K.gat m1 m2 hsh ?_
 refine pT hw hf79 (bu hn) (ax (ha pos A env F'1 G ρ1 s₁ _ E hA S st1 q) (fun vs s₂ h'2=>?_) am) pos
 obtain ⟨ts,F'2,ρ2,hl,q,st2,y'2,r⟩:=h'2
 refine ⟨st2.world,?_⟩
 refine ax (hC.wp f _ none _ A F'2 s₂ (.ref a::vs) none [] E hA hf79 st2.world st2.base st2.live (.cons (y'2.step.vr st1 ro) r) rfl cK (fun a h=>nomatch h) q) (fun v s'3 h'3=>?_) am
 obtain ⟨t,r',F',q,af,rv,_,_⟩:=h'3
 exact fG.epost (y'1.trans y'2) st2 ⟨F',af.grow,rv⟩ q
end
end
section
noncomputable def FW:BM→Str
 | .get=>"get" | .values=>"values" | .index=>"index"
noncomputable def zr:BM→Value
 | .get=>.builtin "dict.get" | .values=>.builtin "dict.values" | .index=>.builtin "list.index"
theorem zB {m:Str} {b:BM} (h:H2 m=some b):m=FW b:=by
 exact kz h (fun e z=>az z▸e) fun h=>kz h (fun e z=>az z▸e) fun h=>ifs h fun e z=>z▸e
section
variable {W:Wd} {F:Addr→Prop} {s:Shared} {A:Around} {E:Value→Shared→Prop}
theorem Ex {b:BM} {to:T} {pl:Sem Bool} {Q:Value×List Value→Shared→Prop} (x:dY W F s.heap to v) (k:O6 b to=true) (q:Q (zr b,[v]) s):wpAny (model W.prog W.w) A (getMethod v (FW b) pl) Q E s:=by
 induction b with
 | get=>
  exact Ai k fun kvs h=>by
   obtain ⟨es,a,ep,rfl,g,_⟩:=(h▸x).dict_inv
   exact getMethod_builtin ⟨_,g,rfl⟩ PySem.F.plainAttrs_dict PySem.F.slot_dict_get PySem.F.type_dict_get (fun b e=>Value.ref.inj e▸⟨_,g,rfl⟩) q
 | values=>
  exact Ai k fun kvs h=>by
   obtain ⟨es,a,ep,rfl,g,_⟩:=(h▸x).dict_inv
   exact getMethod_builtin ⟨_,g,rfl⟩ PySem.F.plainAttrs_dict PySem.F.slot_dict_values PySem.F.type_dict_values (fun b e=>Value.ref.inj e▸⟨_,g,rfl⟩) q
 | index=>
  obtain ⟨xs,h⟩:=Option.isSome_iff_exists.mp k
  obtain ⟨es,a,ep,rfl,g,_⟩:=(et h▸x).list_inv
  exact getMethod_builtin ⟨_,g,rfl⟩ PySem.F.plainAttrs_list PySem.F.slot_list_index PySem.F.type_list_index (fun b e=>Value.ref.inj e▸⟨_,g,rfl⟩) q
theorem Fm {xs:List T} {l:List Int} {i:Int} {t:Tok} (g:s.heap.get? a=some (seqObj "list" vs.toArray n)) (hz:xs.length≤SZ) (r:bR W F s.heap xs vs) (e:cZ xs=some l) (hk:l.contains i=true) :
  wpAny (model W.prog W.w) A (call (.builtin "list.index") [.ref a,.int i t]) (fG W F s (.int (l.idxOf i))) E s:=by
 have hx:=ew e
 subst hx
 have hi:=tN r
 have hlen:=hi.length
 rw [ba] at hz
 have hz':l.length≤1048576:=hz
 have hm:i∈l:=fH.mp hk
 have hj:l.idxOf i < l.length:=List.idxOf_lt_length_iff.mpr hm
 refine call_meets PySem.F.slot_list_index ⟨_,g,rfl⟩ PySem.F.entry_list_index (PySem.F.args_list_index_2 _ _)
  (SeqAt.list_indexAt a vs.toArray n none #[] (.int i t) (PyProof.Rows.isInt i) (l.idxOf i) (by simpa [hlen] using hj) (by lia) ?_ ?_) ⟨g,fun y hy=>(eq_isInt i t hi y (by simpa using hy)).at _ _,?_⟩
 ·show PyProof.Rows.isInt i vs[l.idxOf i]=true
  rw [isInt_at i hi _ (by lia) hj]
  simpa using List.getElem_idxOf hj
 ·intro j hjs hlt
  show PyProof.Rows.isInt i vs[j]=false
  rw [isInt_at i hi j (by simpa using hjs) (by lia)]
  exact ne_of_lt_idxOf hlt _
 ·exact fG.of_toks (tk:=s.toks+1) (.int _ _)
theorem LU {es:List DictEntry} {d:Addr} {k:bK} {kv dv:Value} {dt:T} (hu:A.units+20 < cLine) (hs:(d==sysModules)=false) (hg:s.heap.get? d=some (aL es ep)) (r:cM W F s.heap kvs es) (hn:(kvs.map (·.1)).Nodup)
  (hh:tZ k kvs=true) (hk:VR W ej s.heap (cf k) kv) (hd:VR W F s.heap dt dv) :
  wpAny (model W.prog W.w) A (call (.builtin "dict.get") [.ref d,kv,dv]) (fG W F s ((gw kvs k).getD dt)) E s:=by
 refine eR PySem.F.slot_dict_get (aA hg) PySem.F.entry_dict_get ?_ (PySem.F.args_dict_get_3 _ _ _)
 show wpAny _ _ (dictGet d kv >>= _) _ _ s
 refine ac (uF (by simp only [Around.in1_units];lia) hg r hn hh hk fun o tk ho=>?_)
 induction hf:gw kvs k with
 | some v=>
  rw [hf] at ho
  induction o with
  | none=>exact ho.elim
  | some o=>exact al ⟨_,rfl,fG.of_toks ho⟩
 | none=>
  rw [hf] at ho
  induction o with
  | some o=>exact ho.elim
  | none=>
   show wpAny _ _ (Builtin.Dict.missed d kv >>= _) _ _ _
   exact ac (wpAny_missed_other hs (al ⟨_,rfl,fG.of_toks hd⟩))
theorem BP {es:List DictEntry} {d:Addr} (hs:(d==sysModules)=false) (hF:F d) (hl:kvs.length≤SZ) (hg:s.heap.get? d=some (aL es ep)) (r:cM W F s.heap kvs es) :
  wpAny (model W.prog W.w) A (call (.builtin "dict.values") [.ref d]) (fG W F s (.dvals kvs)) E s:=by
 refine eR PySem.F.slot_dict_values (aA hg) PySem.F.entry_dict_values ?_ (PySem.F.args_dict_values_1 _)
 refine ac ?_
 unfold Builtin.Dict.noArgs
 refine ac (wpAny_notOrdered_dict (aA hg) ?_)
 show wpAny _ _ (pure d) _ _ s
 refine al ?_
 show wpAny _ _ (Builtin.Dict.showsAll d >>= _) _ _ s
 unfold Builtin.Dict.showsAll
 rw [av (by rw [hs];exact bO)]
 refine ac (al ?_)
 refine ac (gy (al ?_))
 have g:b9 F s F { s with heap:=s.heap.push { cls:=.type "dict_values",data:=.fields #[.ref d] } }:=b9.push F _ s.toks
 refine ⟨_,rfl,_,g.add (as:=[s.heap.objs.size]) (fun a h=>by rw [aV.mp h];exact aS _) (fun a h=>by rw [aV.mp h];exact ⟨_,dG _ rfl⟩),?_⟩
 exact .dvals (.inr (.head _)) (dG _ rfl) (.inl hF) (bU _ hg) hl (cM.mono (fun _=>.inl) (fun a o _ e=>bU _ e) r)
theorem Jb {b:BM} {to t:T} {ts:List T} (hu:A.units+100 < cLine) (x:dY W F s.heap to v) (hv:b=.values→VR W F s.heap to v) (r:bR W F s.heap ts vs) (e:NC b to ts=some t) :
  wpAny (model W.prog W.w) A (call (zr b) (v::vs)) (fG W F s t) E s:=by
 induction b with
 | get=>
  refine dw e fun kvs h1 e=>dw e fun p h2 e=>dw e fun k' hk' e=>ifs e fun hh z=>?_
  rw [z]
  obtain ⟨v1,v2,rk,rd⟩:=(xr h2▸r).two
  obtain ⟨es,a,ep,rfl,g,_,hn,hs,rr⟩:=(kq h1▸x).dict_inv
  exact LU (by lia) hs g rr hn hh (gH hk'▸rk.up) rd
 | values=>
  refine dw e fun kvs h1 e=>ifs e fun h2 z=>?_
  have r':bR W F s.heap [] vs:=List.isEmpty_iff.mp h2▸r
  rw [z,r'.inv0]
  obtain ⟨es,a,ep,e,g,l,_,n,rr⟩:=(kq h1▸hv rfl:VR W F s.heap (.dict kvs) v).q.dict_inv
  rw [e]
  exact BP n ((kq h1▸hv rfl:VR W F s.heap (.dict kvs) v).rootF e) l g rr
 | index=>
  refine dw e fun xs h1 e=>dw e fun i h2 e=>dw h2 fun t h3 h4=>dw e fun l hl e=>ifs e fun hc z=>?_
  rw [z]
  obtain ⟨w,ri⟩:=(zF h3▸r).one
  obtain ⟨u,rfl⟩:=(cC h4▸ri).q.int_inv
  obtain ⟨vs,a,n,rfl,g,hz,rr⟩:=(et h1▸x).list_inv
  exact Fm g hz rr hl hc
theorem zX {b:BM} {ts:List (Bool×Sem Value)} (hp:ts.any (·.1)=false) (h:wpAny M A (spliced ts) (fun vs s₁=>wpAny M A (call (zr b) (v::vs)) Q E s₁) E s) :
  wpAny M A (callWith pos (zr b) [v] ts []) Q E s:=by
 induction b<;>exact Calls.callWith_builtin hp (ge hp h)
end
section
variable {W:Wd} {C:aC} {n:Nat} {sc:Scope}
theorem EO {o:Expr} {m:Str} {b:BM} {d:SE} (hb:fg o=true) (hn:gX args=true) (hp:(ap.endLine==pos.line)=true) (hm:H2 m=some b) (ho:cX W C n sc (eval o) d) (ha:xS W C n sc args ds) :
  cX W C n sc (eval (.Call (.Attribute o m ap) args [] pos)) (Au b (.e d) ds):=by
 intro A env F G ρ s Q E hA S st q
 refine im hb hn hp (ax (ho A env F G ρ s _ E hA S st q) (fun ov s₁ h'1 pl=>?_) am)
 obtain ⟨to,F'1,ρ1,⟨hk,q⟩,st1,y'1,ro⟩:=h'1
 rw [zB hm]
 refine Ex ro.q hk ?_
 refine zX (fI (bu hn)) (ax (ha pos A env F'1 G ρ1 s₁ _ E hA S st1 q) (fun vs s₂ h'2=>?_) am)
 obtain ⟨ts,F'2,ρ2,hl,q,st2,y'2,r⟩:=h'2
 obtain ⟨t,ht,q⟩:=aW q
 have ro2:=y'2.step.vr st1 ro
 exact ax (Jb hA.u ro2.q (fun _=>ro2) r ht) (fun u s'3 h'3=>h'3.epost (y'1.trans y'2) st2 q) am
theorem Ku {o:Expr} {m:Str} {b:BM} (hb:fg o=true) (hn:gX args=true) (hp:(ap.endLine==pos.line)=true) (hm:H2 m=some b) (hv:b≠.values) (ho:cX W C n sc (eval o) (bA tb sc o)) (ha:xS W C n sc args ds) :
  cX W C n sc (eval (.Call (.Attribute o m ap) args [] pos)) (Au b (bf tb sc o (bA tb sc o)) ds):=by
 rcases nX (sc:=sc) (value:=o) with ⟨x,p,j,rfl,hx,hj,e⟩ | e
 ·intro A env F G ρ s Q E hA S st q
  rw [e] at q
  obtain ⟨en,hf,ld⟩:=S.loads hx (dg hj)
  obtain ⟨hr,q⟩:=q
  obtain ⟨to,v,hk,hv1,ro⟩:=st.peek hf hr
  refine im hb hn hp (ld hv1 fun pl=>?_)
  rw [zB hm]
  refine Ex ro hk ?_
  refine zX (fI (bu hn)) (ax (ha pos A env F G ρ s _ E hA S st q) (fun vs s₂ h'2=>?_) am)
  obtain ⟨ts,F'2,ρ2,hl,q,st2,y'2,r⟩:=h'2
  obtain ⟨to',v',q,hv2,ro'⟩:=st2.peek hf q
  have hvv:v=v':=az ((hv1.keep fun o=>y'2.pl en (cp hf) o).inj hv2)
  subst hvv
  obtain ⟨t,ht,q⟩:=aW q
  exact ax (Jb hA.u ro' (fun e=>absurd e hv) r ht) (fun u s'3 h'3=>h'3.epost y'2 st2 q) am
 ·rw [e]
  exact EO hb hn hp hm ho ha
end
end
section
theorem yT {h:Heap} {C:Addr} (Y:Makes M h C):Looks M h (keeperOf (.ref C)) .machine:=by
 obtain ⟨oc,od,cd,sl,hC,_⟩:=Y.obj
 exact (Looks.ld (part:=none) hC).andThen (Y.call.andThen .now)
theorem nz {f:Value} {first:List Value} {args:List (Bool×Sem Value)} (hplain:args.any (·.1)=false)
  (h:wpAny M A (evalArgs f true args []) (fun a s₁=>Looks M s₁.heap (keeperOf f) .machine∧wpAny M A (call f (first++a.pos) a.kw) Q E s₁) E s):wpAny M A (callWith pos f first args []) Q E s:=by
 unfold callWith
 refine ac (b5 (ax h (fun a s₁ h'1=>ac (dI ?_)) fun _ _ x=>x))
 obtain ⟨L,h'1⟩:=h'1
 have hs:(args.any (·.1)||([]:List (Option Str×Sem Value)).any (·.1.isNone))=false:=by rw [hplain];rfl
 refine ac (L.here ?_)
 rw [hs]
 exact ac (ax h'1 (fun r s₂ hr=>ac (b5 (wpAny_point (al hr)))) fun _ _ x=>x)
section
variable {W:Wd} {C:aC} {n:Nat} {sc:Scope}
theorem Kb:∀ c,c < 14→lf c < 79∧gM (lf c)=0:=by decide +kernel
theorem G2 (hw:gW W) (hC:cz W C n) {c:Nat} (hg:cw sc x=true) (hd:(x==("__debug__":Str))=false) (hn:gX args=true) (hi:tb.cls x=some (c,i)) (ha:xS W C n sc args ds) :
  sq W C n sc (eval (.Call (.Name x p) args [] pos)) (dF c i ds):=by
 intro A env F G ρ s Q E hA S st q
 refine Call_Name rfl (S.gets hg hd hw st.world (.inl (hw.cn x c i hi).1) ?_)
 refine nz (fI (bu hn)) (ge (fI (bu hn)) (ax (ha pos A env F G ρ s _ E hA S st q) (fun vs s₁ h'1=>?_) am))
 obtain ⟨ts,F'1,ρ1,hl,⟨hc,q⟩,st1,y'1,r⟩:=h'1
 have K:=hw.cls c hc
 have hin:=hw.K.keeps st1.world
 have Y:=makes_of (M:=model W.prog W.w) hin K.mks
 refine ⟨yT Y,wpAny_call ?_⟩
 have hii:=(hw.cn x c i hi).2 hc
 subst hii
 obtain ⟨hi79,hr0⟩:=Kb c hc
 obtain ⟨h,g,d,t,os⟩:=s₁
 refine make_core Y (looks_findIn hin K.ini) (fun self=>bind_fn hin self K.ift) (.inl rfl) ?_
 have k:∀ b o,h.get? b=some o→((h.push emptyDict).push (instObj (W.ca c) h.objs.size)).get? b=some o:=fun b o e=>bU _ (bU _ e)
 have nx:h.get? (h.objs.size+1)=none:=by
  induction q:h.get? (h.objs.size+1) with
  | none=>rfl
  | some o=>exact absurd (ef q) (Nat.not_lt.mpr (Nat.le_succ _))
 have nd:h.get? h.objs.size=none:=aS h
 have fr:∀ a∈[h.objs.size+1,h.objs.size],h.get? a=none:=by
  intro a ha
  rcases aU.mp ha with rfl | ha
  ·exact nx
  ·rw [aV.mp ha];exact nd
 have gx:((h.push emptyDict).push (instObj (W.ca c) h.objs.size)).get? (h.objs.size+1)=some (instObj (W.ca c) h.objs.size):=by
  have:=dG (h.push emptyDict) (o:=instObj (W.ca c) h.objs.size) rfl
  rwa [Heap.size_push] at this
 have gd:((h.push emptyDict).push (instObj (W.ca c) h.objs.size)).get? h.objs.size=some emptyDict:=bU _ (dG _ rfl)
 have gr:b9 F'1 ⟨h,g,d,t,os⟩ F'1 ⟨(h.push emptyDict).push (instObj (W.ca c) h.objs.size),g,d,t,os⟩:=⟨rfl,rfl,fun b o=>k b o,fun _ e=>e,fun _=>.inl⟩
 obtain ⟨st2,y'2⟩:=st1.grow gr
 have own0:∀ a∈[h.objs.size+1,h.objs.size],¬ F'1 a∧W.h0.get? a=none:=by
  intro a ha
  refine ⟨fun f=>?_,?_⟩
  ·obtain ⟨o,e⟩:=st1.live a f
   have e:h.get? a=some o:=e
   rw [fr a ha] at e;exact nn e
  ·induction e:W.h0.get? a with
   | none=>rfl
   | some o=>
    have e:h.get? a=some o:=st1.world a o e
    rw [fr a ha] at e;exact nomatch e
 have z:=hC (lf c) ts (some (.inst c [])) _ (A.under (.builtin "type.__call__" ⟨.ref (W.ca c)::([]++vs),[]⟩)) F'1 ⟨(h.push emptyDict).push (instObj (W.ca c) h.objs.size),g,d,t,os⟩ vs (some (.ref (h.objs.size+1))) [h.objs.size+1,h.objs.size] E
  ⟨hA.handled,by have:=hA.depth;show A.depth+1+2*n≤901;lia,by have:=hA.units;show A.units+1+20*n≤9001;lia⟩ hi79 st2.world st2.base st2.live (r.grow gr) (show gu W F'1 _ _ (.inst c []) _ from .inst rfl gx gd (ck _) .nil) (by simp) own0 q
 rw [hr0] at z
 refine codeAny_mono z fun r s' z=>?_
 have other:∀ fl,(∀ v,fl≠Flow.ret v)→C9 E (Ax W F'1 [h.objs.size+1,h.objs.size] ⟨(h.push emptyDict).push (instObj (W.ca c) h.objs.size),g,d,t,os⟩ (some (Value.ref (h.objs.size+1))) fun r t'=>r=T.none∧fW t' fun t'=>Q t' ρ1) (.ok fl) s'→False:=fun fl hf z=>by induction fl<;>first | exact z | exact hf _ rfl
 induction r with
 | error e=>exact z
 | ok fl=>
 by_cases hfl:∃ v,fl=Flow.ret v
 ·obtain ⟨v,rfl⟩:=hfl
  obtain ⟨tr,r',F',⟨rfl,q⟩,af,rv,rr,nF⟩:=z
  obtain ⟨t',rfl,q⟩:=aW q
  refine ⟨rv.q.none_inv,?_⟩
  have g'2:b9 F'1 ⟨h,g,d,t,os⟩ F' s':=⟨af.gens,af.os,fun b o e=>af.keep b o (fun m=>by rw [fr b m] at e;exact nn e) (k b o e),af.mono,fun a f=>by
   rcases af.fresh a f with f | ⟨f,l⟩
   ·exact .inl f
   ·refine .inr ⟨?_,l⟩
    induction e:h.get? a with
    | none=>rfl
    | some o=>rw [k a o e] at f;exact nomatch f⟩
  obtain ⟨st3,y'3⟩:=st1.grow g'2
  exact ⟨t',F',ρ1,[h.objs.size+1,h.objs.size],q,st3,y'1.trans y'3,rr,by simp,fun a ha=>⟨y'1.step.lives a (fr a ha),nF a ha⟩⟩
 ·exact (other fl (fun v e=>hfl ⟨v,e⟩) z).elim
theorem MA (hw:gW W) (hC:cz W C n) {c:Nat} (hg:cw sc x=true) (hd:(x==("__debug__":Str))=false) (hn:gX args=true) (hi:tb.cls x=some (c,i)) (ha:xS W C n sc args ds) :
  cX W C n sc (eval (.Call (.Name x p) args [] pos)) (dF c i ds):=fun A env F G ρ s Q E hA S st q=>
 ax (G2 hw hC hg hd hn hi ha A env F G ρ s Q E hA S st q) (fun v s' z=>z.epost st) am
theorem vd {K:Frag} {h:Heap} {cd:ClassData} (X:K.In h) (e:clsIn K a=some cd):Looks M h (isType (.ref a)) true:=by
 intro A Q E s k q
 unfold clsIn at e
 induction ho:K.lookup a with
 | none=>rw [ho] at e;exact nn e
 | some o=>
  rw [ho] at e
  unfold isType loadHead
  refine ac (wpAny_loadPart (k _ _ (X _ _ ho)) ?_)
  clear ho
  obtain ⟨c,d,dat,sl⟩:=o
  induction dat with
  | cls cd=>exact al q
  | _=>exact nn e
theorem AY (hw:gW W) {pc:Pos} {a:Expr} {c:Nat} {d:SE} (hg:cw sc "isinstance"=true) (hn:gX [a,.Name y pc]=true) (hy:cw sc y=true) (hdy:(y==("__debug__":Str))=false) (hi:tb.cls y=some (c,i)) (ha:cX W C n sc (eval a) d) :
  cX W C n sc (eval (.Call (.Name "isinstance" p) [a,.Name y pc] [] pos)) (pX d c):=by
 intro A env F G ρ s Q E hA S st q
 refine Call_Name rfl (S.gets hg (by decide) hw st.world (.inr hw.bi) ?_)
 refine Calls.callWith_builtin (fI (bu hn)) (ge (fI (bu hn)) ?_)
 have hs:=bu hn
 rw [List.all_cons,bC] at hs
 rw [dz hs.1]
 refine Calls.spliced_cons (ax (ha A env F G ρ s _ E hA S st q) (fun v s₁ h'1=>?_) am)
 obtain ⟨t,F'1,ρ1,q,st1,y'1,r⟩:=h'1
 obtain ⟨p,hp,hd14,rfl,qf⟩:=aW q
 rw [qa hp] at r
 rw [dz (e:=.Name y pc) (es:=[]) rfl]
 refine Calls.spliced_cons (S.gets hy hdy hw st1.world (.inl (hw.cn y 14 i hi).1) (Calls.spliced_nil ?_))
 obtain ⟨es,a',dx,ep,rfl,g,g',l,rr⟩:=r.q.inst_inv
 have K:=hw.cls p.1 hd14
 obtain ⟨cd,hcd,hdict⟩:=K.cd
 refine kin_call (od:=aL es ep) (by unfold plainGet;rw [K.ga,K.gat];rfl) (by unfold hasDictIn;rw [hcd];exact hdict) K.cl hw.gsp hw.tks K.ob (hw.K.keeps st1.world) (uS g g')
  (fun M h' X=>looks_typeIn X hw.t14) (fun M h' X=>?_) K.ne (fun M h' X=>looks_subIn X K.nsub) ?_
 ·obtain ⟨cd14,hc14⟩:=hw.c14
  exact vd X hc14
 ·exact fG.epost (s₂:={ s₁ with toks:=s₁.toks+1 }) y'1 st1 (fG.of_toks (.bool _)) qf
end
end
section
noncomputable def push (env:PySem.Env) (cs:List (Str×Addr)) (p:Str×NameKind):List (Str×Addr):=
 if p.2==.free then (match env.cells.lookup p.1 with | some a=>(p.1,a)::cs | none=>cs) else cs
noncomputable def clos (env:PySem.Env) (ns:List (Str×NameKind)) (cs:List (Str×Addr)):List (Str×Addr):=ns.foldl (push env) cs
theorem BX {p:Str×NameKind} {cs:List (Str×Addr)} (h:p.2=.free→∃ a,env.cells.lookup p.1=some a) :
  (if p.2==NameKind.free then (do let a ← cellOf env p.1;pure (ForInStep.yield ((p.1,a)::cs))) else pure (ForInStep.yield cs):Sem (ForInStep (List (Str×Addr))))=pure (.yield (push env cs p)):=by
 unfold push
 induction q:p.2==.free with
 | true=>
  obtain ⟨a,ha⟩:=h (bm.mp q)
  rw [au rfl,au rfl,ha]
  unfold cellOf
  rw [ha];exact pure_bind _ _
 | false=>rfl
theorem Ip (h:∀ p∈sc.names,p.2=.free→∃ a,env.cells.lookup p.1=some a):closureFor sc env=pure (clos env sc.names []):=by
 unfold closureFor
 generalize sc.names=ns at h ⊢
 show (forIn ns [] _ >>= fun cs=>pure cs)=_
 suffices hs:∀ cs,(forIn ns cs fun (p:Str×NameKind) (cs:List (Str×Addr))=>(if p.2==NameKind.free then (do let a ← cellOf env p.1;pure (ForInStep.yield ((p.1,a)::cs))) else pure (ForInStep.yield cs):Sem (ForInStep (List (Str×Addr)))))=pure (clos env ns cs) by
  rw [← pure_bind (clos env ns []) (fun cs=>(pure cs:Sem _)),← hs []]
 induction ns with
 | nil=>intro cs;rfl
 | cons p ns ih=>
  intro cs
  rw [List.forIn_cons,BX (h p (.head _)),pure_bind]
  exact ih (fun p m=>h p (.tail _ m)) _
theorem Hw {cs:List (Str×Addr)} {p:Str×NameKind} (e:x≠p.1):(push env cs p).lookup x=cs.lookup x:=by
 unfold push
 induction p.2==.free with
 | false=>rfl
 | true=>
  rw [au rfl]
  induction env.cells.lookup p.1 with
  | none=>rfl
  | some a=>exact by rw [jb,eG.mpr e]
theorem B2:∀ {cs:List (Str×Addr)},x∉ns.map (·.1)→(clos env ns cs).lookup x=cs.lookup x:=by
 induction ns with
 | nil=>exact fun _=>rfl
 | cons p r ih=>
  intro cs h
  rw [c6,aU,not_or] at h
  exact (ih h.2).trans (Hw h.1)
theorem AE {c:Addr} (nd:(ns.map (·.1)).Nodup) (m:(x,NameKind.free)∈ns) (l:env.cells.lookup x=some c):∀ cs,(clos env ns cs).lookup x=some c:=by
 induction ns with
 | nil=>exact nomatch m
 | cons p r ih=>
  intro cs
  rw [c6,cP] at nd
  rcases aU.mp m with e | m
  ·rw [← e] at nd ⊢
   refine (B2 nd.1).trans ?_
   show (match env.cells.lookup x with | some a=>(x,a)::cs | none=>cs).lookup x=_
   rw [l,jb,beq_self_eq_true]
  ·exact ih nd.2 m _
theorem PY:¬ bp i ".0":=fun h=>by
 have:(".0":Str)∉mM:=by decide +kernel
 exact this (List.mem_of_getElem? h)
theorem kN {k:α} {ns:List (Str×α)} (nd:(ns.map (·.1)).Nodup) (h:(x,k)∈ns):ns.lookup x=some k:=by
 induction ns with
 | nil=>exact nomatch h
 | cons p r ih=>
  rw [c6,cP] at nd
  rw [jb]
  rcases aU.mp h with e | h
  ·rw [← e,beq_self_eq_true]
  ·rw [eG.mpr (fun e=>nd.1 (e▸List.mem_map_of_mem (f:=(·.1)) h):x≠p.1)]
   exact ih nd.2 h
theorem gI (h:dM tb (x::xs)=some is) (k:∀ j js,tb.id x=some j→dM tb xs=some js→is=j::js→P):P:=dw h fun j hj h=>eT h fun js hjs z=>k j js hj hjs z
theorem yQ {C:Addr} (hi:bp i x):∀ {is:List Nm},dM tb xs=some is→x∈xs→∃ e,first (bQ C xs is++G) i=some e∧e.pl=.loc C x:=by
 induction xs with
 | nil=>intro is _ m;exact nomatch m
 | cons y xs ih=>
  intro is h m
  refine gI h fun j js hj hjs z=>?_
  have hj:=dg hj
  rw [z]
  show ∃ e,List.find? _ (_::_)=some e∧_
  rw [List.find?_cons]
  by_cases e:j=i
  ·have ey:y=x:=hj.fn (e▸hi)
   exact ⟨_,by rw [show (j==i)=true from bm.mpr e],aw (dj.loc C) ey⟩
  ·rw [show (j==i)=false from eG.mpr e]
   exact ih hjs ((aU.mp m).resolve_left fun z=>e (hj.inj (z▸hi)))
theorem ze {C:Addr} (hi:bp i x):∀ {is:List Nm},dM tb xs=some is→x∉xs→first (bQ C xs is++G) i=first G i:=by
 induction xs with
 | nil=>intro is h m;rw [← az h];rfl
 | cons y xs ih=>
  intro is h m
  refine gI h fun j js hj hjs z=>?_
  have m:=not_or.mp fun k=>m (aU.mpr k)
  rw [z]
  show List.find? _ (_::_)=_
  rw [List.find?_cons,show (j==i)=false from eG.mpr fun e=>m.1 (hi.fn (e▸dg hj))]
  exact ih hjs m.2
theorem mQ:∀ {is:List Nm},dM tb xs=some is→xs.length=is.length:=by
 induction xs with
 | nil=>intro is h;rw [← az h];rfl
 | cons y xs ih=>intro is h;exact gI h fun j js _ hjs z=>z▸aw (·+1) (ih hjs)
theorem yz (f:Str→α→α) {ns:List (Str×α)}:(ns.map fun p=>(p.1,f p.1 p.2)).lookup x=(ns.lookup x).map (f x):=by
 induction ns with
 | nil=>rfl
 | cons p r ih=>
  rw [c6,jb,jb]
  induction q:x==p.1 with
  | true=>exact aw (fun y=>some (f y p.2)) (bm.mp q).symm
  | false=>exact ih
theorem jt:(ns.map fun (n,k)=>if (k==NameKind.free&&env.scope.kind==.function&&env.kindOf n==some .cell) then (n,NameKind.cell) else (n,k)).lookup x =
  (ns.lookup x).map fun k=>if (k==NameKind.free&&env.scope.kind==.function&&env.kindOf x==some .cell) then NameKind.cell else k:=by
 refine (aw (List.lookup x) (iD fun p _=>?_)).trans (yz fun n k=>if (k==NameKind.free&&env.scope.kind==.function&&env.kindOf n==some .cell) then NameKind.cell else k)
 exact (apply_ite (Prod.mk p.1) _ _ _).symm
section
variable {W:Wd} {out sc:PySem.Scope} {env:PySem.Env} {G:List bY}
structure fh (out sc:PySem.Scope):Prop where
 kind:sc.kind=.function
 nd:(sc.names.map (·.1)).Nodup
 ne:aX sc≠[]
 cell:∀ p∈sc.names,p.2≠.cell
 free:∀ x,(x,NameKind.free)∈sc.names→(out.names.lookup x=some .cell∨out.names.lookup x=some .free)∧∃ i,bp i x
theorem sd (ok:y6 tb out sc=true):fh out sc:=by
 have ok:=cB.mp ok
 have ok1:=cB.mp ok.1
 have ok2:=cB.mp ok1.1
 have h3:=aY.mp ok.2
 refine ⟨bm.mp ok2.1,bH ok1.2,(fun e=>by have:=ok2.2;rw [e] at this;exact bt this),fun p m e=>?_,fun x m=>?_⟩
 ·have:=h3 p m
  rw [e] at this;exact bt this
 ·have:=cB.mp (h3 _ m)
  obtain ⟨i,hi⟩:=Option.isSome_iff_exists.mp this.2
  exact ⟨(Bool.or_eq_true_iff.mp this.1).imp oT oT,i,dg hi⟩
theorem dc.cells (S:dc W out env G) (K:fh out sc) (m:(x,NameKind.free)∈sc.names):(env.kindOf x=some .cell∨env.kindOf x=some .free)∧∃ i e c,bp i x∧first G i=some e∧e.pl=.cell c∧env.cells.lookup x=some c:=by
 obtain ⟨h,i,hi⟩:=K.free x m
 rcases h with h | h
 ·obtain ⟨a,e,c,r⟩:=S.cel x i h hi;exact ⟨.inl a,i,e,c,hi,r⟩
 ·obtain ⟨a,e,c,r⟩:=S.fre x i h hi;exact ⟨a,i,e,c,hi,r⟩
theorem DV (S:dc W out env G) (K:fh out sc):closureFor sc env=pure (clos env sc.names []):=
 Ip fun p m e=>by obtain ⟨n,k⟩:=p;obtain rfl:=e;obtain ⟨_,_,_,c,_,_,_,h⟩:=S.cells K m;exact ⟨c,h⟩
theorem ty (S:dc W out env G) (K:fh out sc) (hv:dM tb (aX sc)=some is) {C:Addr}:dc W sc (compEnvC sc (clos env sc.names []) C env) (bQ C (aX sc) is++G) where
 kind:=K.kind
 g:=S.g
 b:=S.b
 loc:=fun x i h hi=>⟨lookup_relabel_local h,yQ hi hv (by
  unfold aX
  refine bo.mpr ⟨(x,.local),b7.mpr ⟨eB h,?_⟩,rfl⟩
  have:x≠".0":=fun e=>PY (e▸hi)
  simp [this])⟩
 cel:=fun x i h hi=>absurd rfl (K.cell _ (eB h))
 fre:=fun x i h hi=>by
  obtain ⟨a,j,e,c,hj,f,r,l⟩:=S.cells K (eB h)
  have:=hj.inj hi
  subst this
  refine ⟨?_,e,c,?_,r,?_⟩
  ·show List.lookup x (relabel sc env).names=_∨List.lookup x (relabel sc env).names=_
   unfold relabel
   rw [jt,h]
   simp only [Option.map_some]
   split
   ·exact .inl rfl
   ·exact .inr rfl
  ·rw [ze hi hv ?_];exact f
   intro m
   obtain ⟨p,hp,e⟩:=bo.mp m
   obtain ⟨hp,hk⟩:=b7.mp hp
   have:=kN K.nd (k:=p.2) (x:=x) (by rw [← e];exact hp)
   rw [h] at this
   have hk2:p.2=.free:=by injection this with this;exact this.symm
   rw [hk2] at hk
   simp at hk
  ·show (clos env sc.names []).lookup x=some c
   exact AE K.nd (eB h) l []
 glo:=fun x h=>by
  show List.lookup x (relabel sc env).names=_
  unfold relabel
  rw [jt,h];rfl
end
end
section
section
variable {W:Wd} {sc:PySem.Scope} {env:PySem.Env} {G H:List bY} {F:Addr→Prop} {ρ:Env} {s:Shared} {M:Model} {A:Around} {E:Value→Shared→Prop}
theorem tO (h:cq sc x=true):sc.names.lookup x=some .local∨sc.names.lookup x=some .cell:=by
 exact (Bool.or_eq_true_iff.mp h).imp oT oT
theorem jZ (S:dc W sc env G) (h:cq sc x=true) (hi:bp i x) (st:St W F G ρ s) :
  ∃ e,first G i=some e∧(e.pl.addr=env.locals∨∃ c,e.pl=.cell c∧sc.names.lookup x=some .cell)∧∀ {Q:Unit→Shared→Prop},(∀ s',s'.gens=s.gens→s'.os=s.os→(∀ b o,b≠e.pl.addr→s.heap.get? b=some o→s'.heap.get? b=some o)→
   (∀ p:dj,p≠e.pl→∀ u,p.Holds s.heap u→p.Holds s'.heap u)→e.pl.Holds s'.heap (some v)→Q () s')→wpAny M A (storeName env x v) Q E s:=by
 have hp:(env.scope.kind==.class||(env.scope.kind==.module&&env.locals != env.globals))=false:=by rw [S.kind];rfl
 rcases tO h with hl | hl
 ·obtain ⟨hk,e,hf,hpl⟩:=S.loc x i hl hi
  refine ⟨e,hf,.inl (by rw [hpl];rfl),fun {Q} q=>?_⟩
  have lk:=st.look hf
  have holds:∃ u,e.pl.Holds s.heap u:=by
   induction hs:ρ.get i with
   | unb=>rw [hs] at lk;exact ⟨_,lk⟩
   | val t=>rw [hs] at lk;obtain ⟨v,a,_⟩:=lk;exact ⟨_,a⟩
   | own fx t=>rw [hs] at lk;obtain ⟨v,a,_⟩:=lk;exact ⟨_,a⟩
  obtain ⟨u,hu⟩:=holds
  rw [hpl] at hu
  obtain ⟨m,hn,_⟩:=hu
  refine wpAny_storeName_local hk hn (fun h' hn' hs'=>q _ rfl rfl (fun b o hb e'=>hs'.extBut b o (by rw [hpl] at hb;exact hb) e') (fun p hp u hu=>Cf hn hn' hs' p (by rw [hpl] at hp;exact hp) u hu) ?_) hp
  rw [hpl];exact ⟨_,hn',by simp⟩
 ·obtain ⟨hk,e,c,hf,hpl,hc⟩:=S.cel x i hl hi
  refine ⟨e,hf,.inr ⟨c,hpl,hl⟩,fun {Q} q=>?_⟩
  have lk:=st.look hf
  have holds:∃ u,e.pl.Holds s.heap u:=by
   induction hs:ρ.get i with
   | unb=>rw [hs] at lk;exact ⟨_,lk⟩
   | val t=>rw [hs] at lk;obtain ⟨v,a,_⟩:=lk;exact ⟨_,a⟩
   | own fx t=>rw [hs] at lk;obtain ⟨v,a,_⟩:=lk;exact ⟨_,a⟩
  obtain ⟨u,hu⟩:=holds
  rw [hpl] at hu
  refine wpAny_storeName_cell S.kind hk hc hu (fun h' hn' hs'=>q _ rfl rfl (fun b o hb e'=>hs'.extBut b o (by rw [hpl] at hb;exact hb) e') (fun p hp u' hu'=>zg hu hs' p (by rw [hpl] at hp;exact hp) u' hu') ?_)
  rw [hpl];exact hn'
theorem Ba (S:dc W sc env G) (h:cq sc x=true) (hi:bp i x) (st:St W F G ρ s) {t:T} (r:VR W F s.heap t v) (hH:∀ e,first G i=some e→∀ e'∈H,e'.pl.addr≠e.pl.addr) :
  wpAny M A (storeName env x v) (fun _ s'=>St W F G (ρ.set i (.val t)) s'∧cG H F G ρ s F (ρ.set i (.val t)) s') E s:=by
 obtain ⟨e,hf,_,go⟩:=jZ (M:=M) (A:=A) (E:=E) S h hi st (v:=v)
 refine go fun s' hg ho hk hoth hv=>?_
 have nF:¬ F e.pl.addr:=st.plF e (cp hf)
 obtain ⟨G',e1,e2,st',y⟩:=st.store .refl (as:=e.own) (sl':=.val t) hf hk hoth ⟨v,hv,r.mono (fun _ f=>f) fun a o f=>hk a o fun z=>nF (z▸f)⟩ cK (fun a m=>nomatch m) (fun a m=>nomatch m) (fun a m=>nomatch m) (fun a m=>nomatch m) (fun a m=>nomatch m) (fun _ e=>nomatch e) hg ho
 have:=e1 rfl
 subst this
 exact ⟨st',y,fun e' he' o h=>hk _ o (hH e hf e' he') h,fun a ha=>(e2 a ha).elim (fun m=>nomatch m) id⟩
theorem oF (S:dc W sc env G) (h:cq sc x=true) (hi:bp i x) (st:St W F G ρ s) {t:T} (r:VR W F s.heap t v) (hH:∀ e,first G i=some e→∀ e'∈H,e'.pl.addr≠e.pl.addr) :
  wpAny M A (assign (.Name x p) env v) (fun _ s'=>St W F G (ρ.set i (.val t)) s'∧cG H F G ρ s F (ρ.set i (.val t)) s') E s:=wpAny_assign_Name (Ba S h hi st r hH)
theorem w4 {e:Expr} {is:List Nat} (h:iS tb sc (e::es)=some is) (k:∀ x p i js,e=.Name x p→cq sc x=true→tb.id x=some i→iS tb sc es=some js→is=i::js→P):P:=
 dw h fun x h1 h=>sr h fun h2 h=>dw h fun i h3 h=>eT h fun js h4 z=>lR h1 fun p h5=>k x p i js h5 h2 h3 h4 z
theorem uD (S:dc W sc env G) (hH:∀ x i,cq sc x=true→bp i x→∀ e,first G i=some e→∀ e'∈H,e'.pl.addr≠e.pl.addr):∀ {is:List Nm} {ts:List T} {vs:List Value} {ρ:Env} {s:Shared},iS tb sc es=some is→St W F G ρ s→bR W F s.heap ts vs→ts.length=is.length→
  wpAny M A (assignInOrder ((assignEach es env).map (·.2)) vs) (fun _ s'=>St W F G (mq is ts ρ) s'∧cG H F G ρ s F (mq is ts ρ) s') E s:=by
 induction es with
 | nil=>
  intro is ts vs ρ s h st r l
  obtain rfl:=az h
  obtain rfl:=eC l
  rw [r.inv0];exact al ⟨st,.refl⟩
 | cons e es ih=>
  intro is ts vs ρ s h st r l
  refine w4 h fun x p i js h1 hx hi hjs z=>?_
  subst h1;subst z
  induction ts with
  | nil=>exact nomatch l
  | cons t ts=>
   obtain ⟨v,vs,rv,r2⟩:=r.inv
   have z:=oF (M:=M) (A:=A) (E:=E) S (p:=p) hx (dg hi) st rv (hH x i hx (dg hi))
   refine ac (m:=holding _ _) (b5 (ax z (fun _ s₁ h'1=>?_) am))
   exact ax (ih hjs h'1.1 (h'1.2.step.vrs st r2) (Nat.succ.inj l)) (fun _ s₂ h'2=>⟨h'2.1,h'1.2.trans h'2.2⟩) am
theorem Dm:∀ {is:List Nm},iS tb sc es=some is→(assignEach es env).length=is.length∧(assignEach es env).findIdx? (·.1)=none:=by
 induction es with
 | nil=>intro is h;obtain rfl:=az h;exact ⟨rfl,rfl⟩
 | cons e es ih=>
  intro is h
  refine w4 h fun x p i js h1 hx hi hjs z=>?_
  subst h1;subst z
  obtain ⟨h1,h2⟩:=ih hjs
  refine ⟨aw (·+1) h1,?_⟩
  show List.findIdx? (·.1) ((false,assign (.Name x p) env)::assignEach es env)=none
  rw [List.findIdx?_cons,h2];rfl
theorem uH {g:mV} (hh:A.handled=none) (S:dc W sc env G) (hH:∀ x i,cq sc x=true→bp i x→∀ e,first G i=some e→∀ e'∈H,e'.pl.addr≠e.pl.addr) (hHG:∀ e∈H,e∈G) (h:eM tb sc tgt=some g) (st:St W F G ρ s) {t:T} (r:VR W F s.heap t v) {Q:Env→Prop} (q:eI g t ρ Q) :
  wpAny (model W.prog W.w) A (assign tgt env v) (fun _ s'=>∃ ρ',Q ρ'∧St W F G ρ' s'∧cG H F G ρ s F ρ' s') E s:=by
 unfold eM at h
 induction htu:Gb tgt with
 | none=>
  rw [htu] at h
  refine dw h fun x h1 h=>sr h fun hx h=>eT h fun i hi z=>lR h1 fun p h2=>?_
  subst h2;subst z
  exact ax (oF S hx (dg hi) st r (hH x i hx (dg hi))) (fun _ s' z=>⟨_,q,z⟩) am
 | some es=>
  rw [htu] at h
  refine eT h fun is his z=>Fq htu fun c p h2=>?_
  subst h2;subst z
  refine cps fun GG kk=>?_
  cases t with
  | tup ts=>
   refine kk ?_
   have q:if ts.length=is.length then Q (mq is ts ρ) else False:=q
   by_cases hl:ts.length=is.length
   ·rw [au hl] at q
    obtain ⟨vs,a,n,rfl,gg,_,rr⟩:=r.q.tup_inv
    obtain ⟨h1,h2⟩:=Dm (env:=env) his
    refine wpAny_assign_Tuple hh (items:=vs.toArray) ⟨_,gg,rfl,n,rfl⟩ (by rw [h1,← hl,rr.length];rfl) h2 fun h' hx=>?_
    have gr:b9 F s F { s with heap:=h' }:=⟨rfl,rfl,fun b o e=>hx b o (fun z=>nn ((z▸aS _).symm.trans e)) e,fun _ f=>f,fun _=>.inl⟩
    obtain ⟨st1,y'1⟩:=st.grow gr
    refine ax (uD S hH his st1 (rr.grow gr) hl) (fun _ s' z=>⟨_,q,z.1,(y'1.h hHG).trans z.2⟩) am
   ·rw [av hl] at q;exact q.elim
  | _=>exact (show False from q).elim
end
end
section
noncomputable def u4 (ifs:List Expr) (env:PySem.Env) (b:Bool):Sem Bool:=forIn ifs b fun c r=>if r=true then do let ok ← isTrue c env (eval c env);pure (ForInStep.yield ok) else pure (ForInStep.yield r)
theorem AO {ifs:List Expr}:∀ {s:Shared} {Q:Bool→Shared→Prop},Q false s→wpAny M A (u4 ifs env false) Q E s:=by
 induction ifs with
 | nil=>intro s Q q;exact al q
 | cons c ifs ih=>
  intro s Q q
  unfold u4
  rw [List.forIn_cons]
  refine ac ?_
  rw [av (by decide)]
  exact al (ih q)
section
variable {W:Wd} {C:aC} {n:Nat} {sc:PySem.Scope}
theorem E1 {ifs:List Expr} (H:∀ c∈ifs,nv W C n sc (fun env=>isTrue c env (eval c env)) (jF tb sc c (bf tb sc c (bA tb sc c)))):nv W C n sc (fun env=>u4 ifs env true) (hB tb sc .And ifs):=by
 induction ifs with
 | nil=>intro A env F G ρ s Q E hA S st q;exact al ⟨F,ρ,q,st,.refl⟩
 | cons c ifs ih=>
  intro A env F G ρ s Q E hA S st q
  show wpAny _ _ (u4 (c::ifs) env true) _ _ _
  unfold u4
  rw [List.forIn_cons]
  refine ac ?_
  rw [au rfl]
  refine ac (ax (H c (.head _) A env F G ρ s _ E hA S st q) (fun b s₁ h'1=>al ?_) am)
  obtain ⟨F'1,ρ1,q,st1,y'1⟩:=h'1
  induction b with
  | false=>exact AO ⟨F'1,ρ1,q,st1,y'1⟩
  | true=>
   refine ax (ih (fun c m=>H c (.tail _ m)) A env F'1 G ρ1 s₁ _ E hA S st1 q) (fun b s₂ h'2=>?_) am
   obtain ⟨F'2,ρ2,q,st2,y'2⟩:=h'2
   exact ⟨F'2,ρ2,q,st2,y'1.trans y'2⟩
theorem Mf {prog:Program} {w:World} {R:Result→Shared→Prop} {target:Expr} {ifs:List Expr} {it acc:Value} (I:Nat→Shared→Prop)
  (turn:∀ n s,I n s→wpAny (model prog w) A (pyNext it) (fun r s₁=>match r with
   | none=>R (.ok .next) s₁
   | some v=>wpAny (model prog w) A (letOwnedTupleGo target it v) (fun _ s₁=>wpAny (model prog w) A (assign target env v) (fun _ s₂=>
     wpAny (model prog w) A (u4 ifs env true) (fun ok s'3=>
      if ok=true then wpAny (model prog w) A (eval elt env) (fun x s'4=>
       wpAny (model prog w) A (call (.builtin "list.append") [acc,x]) (fun _ s'5=>∃ m,m < n∧I m s'5) (notedBy (model prog w) A env fun e s'=>R (.error e) s') s'4) (notedBy (model prog w) A env fun e s'=>R (.error e) s') s'3
      else ∃ m,m < n∧I m s'3) (notedBy (model prog w) A env fun e s'=>R (.error e) s') s₂) (notedBy (model prog w) A env fun e s'=>R (.error e) s') s₁) (notedBy (model prog w) A env fun e s'=>R (.error e) s') s₁) (notedBy (model prog w) A env fun e s'=>R (.error e) s') s)
  (n:Nat) (h:I n s):codeAny (model prog w) A (.compLoop (.ListComp elt [⟨target,iter,ifs,0⟩] scope pos) 0 it acc env) R s:=by
 refine codeAny_loop rfl I (fun n s hI=>?_) n h
 show wpAny _ A ((compTurn (.ListComp elt [⟨target,iter,ifs,0⟩] scope pos) 0 it acc env).onRaise (fun x=>do noteFrame x env;theTreesLotGoes x)) _ _ s
 refine wpAny_noted ?_
 rw [compTurn_list]
 refine ac (dI (ac (ax (turn n s hI) (fun r s₁ h'1=>?_) fun _ _ h'=>h')))
 induction r with
 | none=>exact al h'1
 | some v=>
  refine ac (ax h'1 (fun _ s₁ h'1=>?_) fun _ _ h'=>h')
  refine ac (ax h'1 (fun _ s₂ h'2=>ac (ax h'2 (fun ok s'3 h'3=>?_) fun _ _ h'=>h')) fun _ _ h'=>h')
  induction ok with
  | false=>exact al ⟨rfl,h'3⟩
  | true=>
   exact ac (ac (ax h'3 (fun x s'4 h'4=>ac (ax h'4 (fun _ s'5 h'5=>al (al ⟨rfl,h'5⟩)) fun _ _ h'=>h')) fun _ _ h'=>h'))
theorem Cj {m:Nat} {h:Heap} (hg:h.get? a=some (seqObj "list" vs.toArray m)):h.PlainList a vs.toArray:=⟨m,hg⟩
section
variable {GG H:List bY} {F'1 F F':Addr→Prop} {ρ1 ρ ρ':Env} {s₁ s s':Shared} {I D:Addr} {hd:Hd} {i:Nat} {oD:Obj}
structure LC (W:Wd) (GG H:List bY) (F'1:Addr→Prop) (ρ1:Env) (s₁:Shared) (I D:Addr) (F':Addr→Prop) (ρ':Env) (s':Shared):Prop where
 st:St W F' GG ρ' s'
 y:cG H F'1 GG ρ1 s₁ F' ρ' s'
 pv:iA W F' GG ρ' [I,D]
structure LX (W:Wd) (GG H:List bY) (F'1:Addr→Prop) (ρ1:Env) (s₁:Shared) (I D:Addr) (hd:Hd) (i:Nat) (oD:Obj) (F':Addr→Prop) (ρ':Env) (s':Shared):Prop where
 lc:LC W GG H F'1 ρ1 s₁ I D F' ρ' s'
 it:gY s'.heap I i hd
 hD:s'.heap.get? D=some oD
theorem LC.pI (L:LC W GG H F'1 ρ1 s₁ I D F ρ s):¬ F I:=(L.pv I (.head _)).1
theorem LC.pD (L:LC W GG H F'1 ρ1 s₁ I D F ρ s):¬ F D:=(L.pv D (.tail _ (.head _))).1
theorem LC.touch (L:LC W GG H F'1 ρ1 s₁ I D F ρ s) (ha:a∈[I,D]) (hP:∀ a∈[I,D],s₁.heap.get? a=none) (hHl:∀ e∈H,∃ o,s₁.heap.get? e.pl.addr=some o) (hk:∀ b o,b≠a→s.heap.get? b=some o→s'.heap.get? b=some o) (hg:s'.gens=s.gens) (ho:s'.os=s.os):LC W GG H F'1 ρ1 s₁ I D F ρ s':=
 have hk':∀ b o,b∉[a]→s.heap.get? b=some o→s'.heap.get? b=some o:=fun b o hb=>hk b o fun e=>hb (e▸.head _)
 ⟨L.st.touch (P:=[a]) (fun b m=>L.pv b (aV.mp m▸ha)) hk',L.y.touch (P:=[a]) (fun b m=>hP b (aV.mp m▸ha)) hHl hk' hg ho,L.pv⟩
theorem LX.step (L:LX W GG H F'1 ρ1 s₁ I D hd i oD F ρ s) (st':St W F' GG ρ' s') (y':cG H F GG ρ s F' ρ' s'):LX W GG H F'1 ρ1 s₁ I D hd i oD F' ρ' s':=
 ⟨⟨st',L.lc.y.trans y',L.lc.pv.step y'.step (fun a ha=>(aU.mp ha).elim (fun e=>e▸L.it.live) fun ha=>aV.mp ha▸⟨_,L.hD⟩)⟩,L.it.keep fun o=>L.lc.pv.keep y'.step (.head _),L.lc.pv.keep y'.step (.tail _ (.head _)) L.hD⟩
end
theorem nj {xs:List α} {x:α} (h:xs[i]? = some x):xs.drop i=x::xs.drop (i+1):=by
 rw [List.drop_eq_getElem_cons (hM.mp h).1,(hM.mp h).2]
theorem lD {l:Nat} (h:i < l):l - (i+1) < l - i:=Nat.sub_lt_sub_left h (Nat.lt_succ_self i)
inductive Py (W:Wd) (C:aC) (GG H:List bY) (F'1:Addr→Prop) (ρ1:Env) (s₁:Shared) (I D:Addr) (hd:Hd) (xs:List T) (ok:Env→Prop) (g:mV) (bs:SB) (de:SE) (Q:List T→Env→Prop) (k:Nat) (s':Shared):Prop where
 | mk (i:Nat) (F':Addr→Prop) (ρ':Env) (acc:List T) (vs:List Value) (m:Nat) (hk:k=xs.length - i) (hi:i≤xs.length) (L:LX W GG H F'1 ρ1 s₁ I D hd i (seqObj "list" vs.toArray m) F' ρ' s') (r:bR W F' s'.heap acc vs) (hl:acc.length≤i) (ho:ok ρ') (q:cb ok g bs de C (xs.drop i) ρ' acc Q)
theorem Ny {R:Result→Shared→Prop} {s₁ s'4:Shared} {ifs:List Expr} {cenv:PySem.Env} {GG H:List bY} {F'1 F'4:Addr→Prop} {ρ1:Env} {I D:Addr} {hd:Hd} {xs:List T} {ok:Env→Prop} {g:mV} {bs:SB} {de:SE} {Q:List T→Env→Prop}
  (hA:sL n A) (S:dc W sc cenv GG) (hH:∀ x i,cq sc x=true→bp i x→∀ e,first GG i=some e→∀ e'∈H,e'.pl.addr≠e.pl.addr) (hHG:∀ e∈H,e∈GG) (hHl:∀ e∈H,∃ o,s₁.heap.get? e.pl.addr=some o)
  (hg:eM tb sc tgt=some g) (hifs:nv W C n sc (fun env=>u4 ifs env true) bs) (helt:cX W C n sc (eval elt) de)
  (hID:I≠D) (hP:∀ a∈[I,D],s₁.heap.get? a=none) (hIat:I∉hd.at) (hsz:xs.length≤SZ)
  (hsrc:∀ F' ρ' s',St W F' GG ρ' s'→cG H F'1 GG ρ1 s₁ F' ρ' s'→ok ρ'→r6 W F' s'.heap xs hd)
  (fin:∀ F' ρ' s' acc vs m,St W F' GG ρ' s'→cG H F'1 GG ρ1 s₁ F' ρ' s'→iA W F' GG ρ' [I,D]→s'.heap.get? D=some (seqObj "list" vs.toArray m)→bR W F' s'.heap acc vs→acc.length≤SZ→Q acc ρ'→R (.ok .next) s')
  {ρ4:Env} (st:St W F'4 GG ρ4 s'4) (y:cG H F'1 GG ρ1 s₁ F'4 ρ4 s'4) (pv:iA W F'4 GG ρ4 [I,D]) (it:gY s'4.heap I 0 hd) (hD:s'4.heap.get? D=some (seqObj "list" ([]:List Value).toArray 0)) (h0:ok ρ4) (q:cb ok g bs de C xs ρ4 [] Q) :
  codeAny (model W.prog W.w) A (.compLoop (.ListComp elt [⟨tgt,iter,ifs,0⟩] scope pos) 0 (.ref I) (.ref D) cenv) R s'4:=by
 refine Mf (Py W C GG H F'1 ρ1 s₁ I D hd xs ok g bs de Q) (fun k s' hI=>?_) xs.length ⟨0,F'4,ρ4,[],[],0,rfl,ck _,⟨⟨st,y,pv⟩,it,hD⟩,.nil,Nat.le_refl _,h0,q⟩
 obtain ⟨i,F',ρ',acc,vs,m,hki,hi,L,racc,hl,ho,q⟩:=hI
 refine ax (j8 hA.handled L.lc.pI L.it (hsrc F' ρ' s' L.lc.st L.lc.y ho) hIat) (fun r s₂ z=>?_) am
 have L'2:=L.lc.touch (.head _) hP hHl z.keep z.gens z.os
 have hD2:=z.keep D _ (fun e=>hID e.symm) L.hD
 have racc2:=racc.mono (fun _ f=>f) fun a o f=>z.keep a o (fun e=>L.lc.pI (e▸f))
 induction hx:xs[i]? with
 | none=>
  rw [z.fin hx]
  rw [List.drop_eq_nil_of_le (List.getElem?_eq_none_iff.mp hx),lB] at q
  exact fin F' ρ' s₂ acc vs m L'2.st L'2.y L'2.pv hD2 racc2 (aH hl (aH hi hsz)) q
 | some x=>
  obtain ⟨v,rv,it2⟩:=z.item hx
  have hlt:i < xs.length:=(hM.mp hx).1
  have L'2:LX W GG H F'1 ρ1 s₁ I D hd (i+1) (seqObj "list" vs.toArray m) F' ρ' s₂:=⟨L'2,it2,hD2⟩
  rw [nj hx,jw] at q
  refine rg it2 (ax (uH hA.handled S hH hHG hg L'2.lc.st rv q) (fun _ s'3 h'3=>?_) am)
  obtain ⟨ρ3,q,st3,y'3⟩:=h'3
  have L'3:=L'2.step st3 y'3
  refine ax (hifs A cenv F' GG ρ3 s'3 _ _ hA S st3 q) (fun b s'4 h'4=>?_) am
  obtain ⟨F'4,ρ4,q,st4,y'4⟩:=h'4
  have L'4:=L'3.step st4 (y'4.h hHG)
  have racc4:=y'4.step.vrs st3 (y'3.step.vrs L'2.lc.st racc2)
  have hki':=hki▸lD hlt
  induction b with
  | false=>exact ⟨_,hki',i+1,F'4,ρ4,acc,vs,m,rfl,hlt,L'4,racc4,Nat.le_succ_of_le hl,q.1,q.2⟩
  | true=>
   rw [au rfl]
   refine (ax (helt A cenv F'4 GG ρ4 s'4 _ _ hA S st4 q) (fun u s'5 h'5=>?_) am)
   obtain ⟨t,F'5,ρ5,q,st5,y'5,rt⟩:=h'5
   have L'5:=L'4.step st5 (y'5.h hHG)
   have racc5:=y'5.step.vrs st4 racc4
   refine wpAny_list_append_plain (Cj L'5.hD) (fun h' hl' hs'=>?_) (by have:=racc5.length;rw [cO,← this,sizeLine_eq];have hz:xs.length≤1048576:=hsz;clear hki hki';lia)
   have hk':∀ b o,b≠D→s'5.heap.get? b=some o→h'.get? b=some o:=fun b o hb e=>hs'.extBut b o hb e
   obtain ⟨m',hl'⟩:=hl'
   refine ⟨_,hki',i+1,F'5,ρ5,acc++[t],vs++[u],m',rfl,hlt,⟨L'5.lc.touch (s':={ s'5 with heap:=h' }) (.tail _ (.head _)) hP hHl hk' rfl rfl,L'5.it.keep fun o=>hk' I o hID,by simpa using hl'⟩,?_,by rw [bS];exact gR hl,q.1,q.2⟩
   exact (bR.append racc5 (.cons rt .nil)).mono (fun _ f=>f) fun a o f=>hk' a o (fun m=>L'5.lc.pD (m▸f))
end
end
section
section
variable {W:Wd} {F F':Addr→Prop} {h h':Heap}
theorem tT {t:T} {xs:List T} (x:dY W F h t v) (e:items t=some xs):xs.length≤SZ:=by
 cases t with
 | list ys=>obtain rfl:=az e;obtain ⟨_,_,_,_,_,l,_⟩:=x.list_inv;exact l
 | tup ys=>obtain rfl:=az e;obtain ⟨_,_,_,_,_,l,_⟩:=x.tup_inv;exact l
 | dict kvs=>obtain rfl:=az e;obtain ⟨_,_,_,_,_,l,_⟩:=x.dict_inv;rw [ba];exact l
 | dvals kvs=>obtain rfl:=az e;obtain ⟨_,_,_,_,_,_,_,l,_⟩:=x.dvals_inv;rw [ba];exact l
 | rng n=>obtain rfl:=az e;obtain ⟨_,_,_,_,_,_,l⟩:=x.rng_inv;rw [ba,ei];exact l
 | _=>exact nn e
theorem iO {t:T} {xs:List T} (e:fV o ρ t=some xs):items t=some xs:=by
 unfold fV at e
 induction h:iZ o ρ with
 | none=>rw [h] at e;exact e
 | some x=>rw [h] at e;rw [et e];rfl
end
noncomputable def OK (W:Wd) (o:jf) (G:List bY) (F'1:Addr→Prop) (ρ0:Env) (s₁:Shared) (xs:List T) (hd:Hd):Prop:=
 ∀ G'1 F' ρ' s',St W F' (G'1++G) ρ' s'→(∀ a,F'1 a→F' a)→(∀ a o,F'1 a→s₁.heap.get? a=some o→s'.heap.get? a=some o)→(∀ e∈G,∀ o,s₁.heap.get? e.pl.addr=some o→s'.heap.get? e.pl.addr=some o)→
  mN o ρ0 G'1.length ρ'→r6 W F' s'.heap xs hd
structure ul (W:Wd) (o:jf) (F:Addr→Prop) (G:List bY) (ρ:Env) (s:Shared) (xs:List T) (ρ0:Env) (F'1:Addr→Prop) (s₁ s₂:Shared) (I:Addr) (hd:Hd):Prop where
 st:St W F'1 G ρ0 s₁
 step:b2 F G ρ s F'1 ρ0 s₁
 grow:b9 F'1 s₁ F'1 s₂
 new:s₁.heap.get? I=none
 it:gY s₂.heap I 0 hd
 len:xs.length≤SZ
 nin:I∉hd.at
 ok:OK W o G F'1 ρ0 s₁ xs hd
 fz:iZ o ρ0=none→∀ F' (s':Shared),(∀ a,F'1 a→F' a)→(∀ a o,F'1 a→s₁.heap.get? a=some o→s'.heap.get? a=some o)→r6 W F' s'.heap xs hd
section
variable {W:Wd} {C:aC} {n:Nat} {sc:PySem.Scope} {F:Addr→Prop} {G:List bY} {ρ:Env} {s:Shared} {A:Around} {E:Value→Shared→Prop} {env:PySem.Env}
theorem qE {t:T} {xs:List T} {F'1:Addr→Prop} {ρ0:Env} {s₁ s₂:Shared} {it:Value} (st:St W F'1 G ρ0 s₁) (y:b2 F G ρ s F'1 ρ0 s₁) (r:VR W F'1 s₁.heap t v) (e:items t=some xs) (z:I3 W F'1 s₁ t v xs it s₂) :
  ∃ I hd,it=.ref I∧ul W o F G ρ s xs ρ0 F'1 s₁ s₂ I hd:=by
 obtain ⟨I,hd,rfl,g,hn,hi,sv,hl,hf,_⟩:=z
 have nin:I∉hd.at:=fun m=>by
  obtain ⟨o,ho⟩:=hl I m
  exact nn (hn.symm.trans ho)
 suffices key:∀ F' (s':Shared),(∀ a,F'1 a→F' a)→(∀ a o,F'1 a→s₁.heap.get? a=some o→s'.heap.get? a=some o)→r6 W F' s'.heap xs hd by
  exact ⟨I,hd,rfl,st,y,g,hn,hi,tT r.q e,nin,fun G'1 F' ρ' s' st' mono keep kp _=>key F' s' mono keep,fun _=>key⟩
 intro F' s' mono keep
 refine sv.keep mono fun a o c ho=>?_
 have fa:F'1 a:=c.elim id fun m=>hf r a m
 obtain ⟨o',ho'⟩:=st.live a fa
 have:=g.keep a o' ho'
 rw [ho] at this
 obtain rfl:=az this
 exact keep a o fa ho'
theorem w0 (hA:sL n A) (S:dc W sc env G) (st:St W F G ρ s) (hi:cX W C n sc (eval iter) (bA tb sc iter)) {P:List T→Env→Prop} (hK:∀ t ρ0,K t ρ0→fW (fV (bf tb sc iter (bA tb sc iter)) ρ0 t) fun xs=>P xs ρ0)
  (q:(bf tb sc iter (bA tb sc iter)).run C ρ K) :
  wpAny (model W.prog W.w) A (eval iter env) (fun x s₁=>wpAny (model W.prog W.w) A (pyIter x) (fun it s₂=>∃ xs ρ0 F'1 I hd,P xs ρ0∧it=.ref I∧ul W (bf tb sc iter (bA tb sc iter)) F G ρ s xs ρ0 F'1 s₁ s₂ I hd) E s₁) E s:=by
 rcases nX (sc:=sc) (value:=iter) with ⟨x,p,i,rfl,ho,hid,e⟩ | e
 ·rw [e] at q hK ⊢
  obtain ⟨en,hf,ld⟩:=S.loads ho (dg hid)
  have lk:=st.look hf
  have q:qi (ρ.get i) (fun t=>K t ρ):=q
  induction hs:ρ.get i with
  | unb=>rw [hs] at q;exact q.elim
  | val t=>
   rw [hs] at q lk
   obtain ⟨v,hv,r⟩:=lk
   obtain ⟨xs,hx,qf⟩:=aW (hK t ρ q)
   have hit:=iO hx
   refine ld hv (ax (vp r.q hit) (fun it s₂ z=>?_) am)
   obtain ⟨I,hd,rfl,zz⟩:=qE (o:=.v i) st b2.refl r hit z
   exact ⟨xs,ρ,F,I,hd,qf,rfl,zz⟩
  | own fx t=>
   rw [hs] at q lk
   obtain ⟨v,hv,r⟩:=lk
   obtain ⟨xs,hx,qf⟩:=aW (hK t ρ q)
   have hit:=iO hx
   have hown:iZ (.v i) ρ=some i:=by unfold iZ;dsimp only;rw [hs]
   unfold fV at hx
   rw [hown] at hx
   obtain rfl:=et hx
   refine ld hv (ax (vp r.q hit) (fun it s₂ z=>?_) am)
   obtain ⟨I,hd,rfl,g,hn,hi,sv,hl,_,hL⟩:=z
   have nin:I∉hd.at:=fun m=>by
    obtain ⟨o,ho⟩:=hl I m
    exact nn (hn.symm.trans ho)
   refine ⟨xs,ρ,F,I,hd,qf,rfl,st,.refl,g,hn,hi,tT r.q hit,nin,?_,fun z=>nn (z.symm.trans hown)⟩
   obtain ⟨l,rfl,rfl⟩:=hL xs rfl
   intro G'1 F' ρ' s' st' mono keep kp ok
   have st'':=st'.pop
   have hs':Env.get (ρ'.drop G'1.length) i=.own fx (.list xs):=by
    unfold mN at ok
    rw [hown] at ok
    exact (show Env.get (ρ'.drop G'1.length) i=ρ.get i from ok).trans hs
   have lk':=st''.look hf
   rw [hs'] at lk'
   obtain ⟨v',hv',r'⟩:=lk'
   have:Value.ref l=v':=az ((hv.keep fun o=>kp en (cp hf) o).inj hv')
   subst this
   have r':=r'.l
   generalize hw:Value.ref l=w at r'
   generalize en.own=as at r'
   obtain ⟨vs,a,n,g',l',r2⟩:=r'
   obtain rfl:=Value.ref.inj hw
   exact ⟨_,_,g',r2⟩
 ·rw [e] at q hK ⊢
  refine ax (hi A env F G ρ s _ E hA S st q) (fun v s₁ h'1=>?_) am
  obtain ⟨t,F'1,ρ1,q,st1,y'1,r⟩:=h'1
  obtain ⟨xs,hx,q⟩:=aW (hK _ _ q)
  have hit:=iO hx
  refine ax (vp r.q hit) (fun it s₂ z=>?_) am
  obtain ⟨I,hd,rfl,zz⟩:=qE (o:=.e (bA tb sc iter)) st1 y'1 r hit z
  exact ⟨xs,ρ1,F'1,I,hd,q,rfl,zz⟩
theorem qV:mN o ρ is.length (c8 is ρ):=by
 unfold mN
 split
 ·unfold c8
  rw [List.drop_left' (by rw [ba])]
 ·trivial
theorem yX:(∀ x,foldedSetIterable iter env x=pure x)∨bf tb sc iter (bA tb sc iter)=.e b6:=by
 cases iter<;>first | exact .inl fun _=>rfl | exact .inr rfl
structure cR (W:Wd) (F:Addr→Prop) (G:List bY) (ρ:Env) (s:Shared) (K:T→Env→Prop) (D Cc:Addr) (t:T) (F':Addr→Prop) (ρ':Env) (s':Shared):Prop where
 q:K t ρ'
 st:St W F' G ρ' s'
 step:b2 F G ρ s F' ρ' s'
 r:gu W F' s'.heap [D] t (.ref D)
 nD:s.heap.get? D=none
 fD:¬ F' D
 pv:iA W F' G ρ' [Cc]
 nC:s.heap.get? Cc=none
 ne:D≠Cc
theorem cR.touch {D Cc:Addr} {t:T} {ρ':Env} {h':Heap} (x:cR W F G ρ s K D Cc t F' ρ' s') (hs:Heap.SameBut Cc s'.heap h') (st:St W F G ρ s):cR W F G ρ s K D Cc t F' ρ' { s' with heap:=h' }:=by
 have hk:∀ b o,b∉[Cc]→s'.heap.get? b=some o→h'.get? b=some o:=fun b o hb e=>hs.extBut b o (fun z=>hb (by simp [z])) e
 have y:cG G F G ρ s F' ρ' { s' with heap:=h' }:=(x.step.h (H:=G) (fun _ h=>h)).touch (s':={ s' with heap:=h' }) (P:=[Cc]) (fun a ha=>by rw [aV.mp ha];exact x.nC) (fun e he=>st.env.liveP he) hk rfl rfl
 exact ⟨x.q,x.st.touch x.pv hk,y.e,
  x.r.mono (fun _ f=>f) fun a o c=>hk a o (fun m=>by
   rw [aV.mp m] at c
   exact c.elim (x.pv Cc (by simp)).1 fun q=>x.ne (aV.mp q).symm),x.nD,x.fD,x.pv,x.nC,x.ne⟩
theorem cR.opost {D Cc:Addr} {t:T} {ρ':Env} (x:cR W F G ρ s K D Cc t F' ρ' s'):wf W F G ρ s K (.ref D) s':=
 ⟨t,F',ρ',[D],x.q,x.st,x.step,x.r,by simp,fun a ha=>by rw [aV.mp ha];exact ⟨x.nD,x.fD⟩⟩
structure Em (W:Wd) (scope:PySem.Scope) (o:jf) (accO:Obj) (is:List Nm) (cenv:PySem.Env) (Cc:Addr) (G:List bY) (xs:List T) (F'1:Addr→Prop) (ρ0:Env) (s₁ s'4:Shared) (I D:Addr) (hd:Hd):Prop where
 sees:dc W scope cenv (bQ Cc (aX scope) is++G)
 hH:∀ x i,cq scope x=true→bp i x→∀ e,first (bQ Cc (aX scope) is++G) i=some e→∀ e'∈G,e'.pl.addr≠e.pl.addr
 hHl:∀ e∈G,∃ o,s₁.heap.get? e.pl.addr=some o
 hID:I≠D
 hP:∀ a∈[I,D],s₁.heap.get? a=none
 nin:I∉hd.at
 len:xs.length≤SZ
 src:∀ F' ρ' s',St W F' (bQ Cc (aX scope) is++G) ρ' s'→cG G F'1 (bQ Cc (aX scope) is++G) (c8 is ρ0) s₁ F' ρ' s'→mN o ρ0 is.length ρ'→r6 W F' s'.heap xs hd
 st:St W F'1 (bQ Cc (aX scope) is++G) (c8 is ρ0) s'4
 y:cG G F'1 (bQ Cc (aX scope) is++G) (c8 is ρ0) s₁ F'1 (c8 is ρ0) s'4
 pv:iA W F'1 (bQ Cc (aX scope) is++G) (c8 is ρ0) [I,D]
 it:gY s'4.heap I 0 hd
 acc:s'4.heap.get? D=some accO
structure uC (s₂:Shared) (accO:Obj) (D Cc:Addr) (s'4:Shared):Prop where
 hD:s₂.heap.get? D=none
 hC:s₂.heap.get? Cc=none
 ne:D≠Cc
 old:∀ b o,s₂.heap.get? b=some o→s'4.heap.get? b=some o
 acc:s'4.heap.get? D=some accO
 ns:s'4.heap.Ns Cc fun _=>none
 gens:s'4.gens=s₂.gens
 os:s'4.os=s₂.os
section
variable {o:jf} {accO:Obj} {scope:PySem.Scope} {is:List Nm} {xs:List T} {ρ0:Env} {F'1:Addr→Prop} {s₁ s₂ s'4:Shared} {I D Cc:Addr} {hd:Hd}
theorem ul.none1 (X:ul W o F G ρ s xs ρ0 F'1 s₁ s₂ I hd) (e:s₂.heap.get? a=none):s₁.heap.get? a=none:=cI X.grow.keep e
theorem St.priv (st:St W F G ρ s) (h:s.heap.get? a=none):¬ F a∧a∉bk G ρ∧(∀ e∈G,e.pl.addr≠a)∧W.h0.get? a=none:=by
 refine ⟨fun f=>?_,fun m=>?_,fun e he z=>?_,?_⟩
 ·obtain ⟨o,e⟩:=st.live _ f;exact nn (h.symm.trans e)
 ·obtain ⟨o,e⟩:=st.env.live m;exact nn (h.symm.trans e)
 ·obtain ⟨o,e⟩:=st.env.liveP he;exact nn (h.symm.trans (z▸e))
 ·induction e:W.h0.get? a with
  | none=>rfl
  | some o=>exact nn (h.symm.trans (st.world a o e))
theorem Fz (S:dc W sc env G) (KP:fh sc scope) (hv:dM tb (aX scope)=some is) (X:ul W o F G ρ s xs ρ0 F'1 s₁ s₂ I hd) (f:uC s₂ accO D Cc s'4) :
  Em W scope o accO is (compEnvC scope (clos env scope.names []) Cc env) Cc G xs F'1 ρ0 s₁ s'4 I D hd:=by
 have l:=mQ hv
 have ndC:(aX scope).Nodup:=KP.nd.sublist (fM.map _)
 have hC1:=X.none1 f.hC
 have old1:∀ b o,s₁.heap.get? b=some o→s'4.heap.get? b=some o:=fun b o e=>f.old b o (X.grow.keep b o e)
 have O:=nH (G:=G) (ρ:=ρ0) (C:=Cc) l
 have hI:∀ {a},s₂.heap.get? a=none→I≠a:=fun h z=>by obtain ⟨o,e⟩:=X.it.live;exact nn (h.symm.trans (z▸e))
 have hP:∀ a∈[I,D],s₁.heap.get? a=none:=fun a ha=>(aU.mp ha).elim (fun e=>e▸X.new) fun ha=>aV.mp ha▸X.none1 f.hD
 have nCF:¬ F'1 Cc:=(X.st.priv hC1).1
 refine ⟨ty S KP hv,?_,fun e he=>X.st.env.liveP he,hI f.hD,hP,X.nin,X.len,?_,X.st.push l ndC hC1 f.ns old1,
  ⟨⟨f.gens.trans X.grow.gens,f.os.trans X.grow.os,fun _ f=>f,fun b o e _ _=>old1 b o e,fun _=>.inl,fun _=>.inl,fun b e=>cI old1 e,rfl⟩,fun e he o ho=>old1 _ o ho,fun _ h=>h⟩,fun a ha=>?_,X.it.keep fun o=>f.old I o,f.acc⟩
 ·intro x i hx hi e he e' he' z
  have hl:scope.names.lookup x=some .local:=(tO hx).resolve_right fun h=>absurd rfl (KP.cell _ (eB h))
  obtain ⟨e'2,h2,h3⟩:=((ty S KP hv (C:=Cc)).loc x i hl hi).2
  obtain rfl:=az (he.symm.trans h2)
  rw [h3] at z
  exact (X.st.priv hC1).2.2.1 e' he' z
 ·intro F' ρ' s' st' y' ok
  refine X.ok _ F' ρ' s' st' y'.step.mono (fun a o f e=>y'.step.keep a o e (fun m=>X.st.ownF a (O▸m) f) fun e' he' z=>?_) (fun e he o ho=>y'.pl e he o ho) (by rw [fe l];exact ok)
  rcases cH.mp he' with m | m
  ·exact nCF ((iq m).symm.trans z▸f)
  ·exact X.st.plF e' m (z▸f)
 ·have p:=X.st.priv (hP a ha)
  have hne:a≠Cc:=(aU.mp ha).elim (fun e=>e▸hI f.hC) fun ha=>aV.mp ha▸f.ne
  exact ⟨p.1,O.symm▸p.2.1,fun e he z=>(cH.mp he).elim (fun m=>hne (z.symm.trans (iq m))) fun m=>p.2.2.1 e m z,p.2.2.2⟩
theorem Cm {ρ':Env} {t:T} (KP:fh sc scope) (hv:dM tb (aX scope)=some is) (X:ul W o F G ρ s xs ρ0 F'1 s₁ s₂ I hd) (f:uC s₂ accO D Cc s'4)
  (st':St W F' (bQ Cc (aX scope) is++G) ρ' s') (y':cG G F'1 (bQ Cc (aX scope) is++G) (c8 is ρ0) s₁ F' ρ' s') (pv':iA W F' (bQ Cc (aX scope) is++G) ρ' [I,D]) (r:gu W F' s'.heap [D] t (.ref D)) (hK:K t (ρ'.drop is.length)) :
  cR W F G ρ s K D Cc t F' (ρ'.drop is.length) s'∧∃ m,s'.heap.Ns Cc m:=by
 have l:=mQ hv
 have le:=fe (C:=Cc) l
 have hC1:=X.none1 f.hC
 have stp:=st'.pop
 have sub:=w3 st'
 rw [le] at stp sub
 obtain ⟨e0,x0,he0,hp0⟩:∃ e0 x0,e0∈bQ Cc (aX scope) is∧e0.pl=.loc Cc x0:=by
  induction hcn:aX scope with
  | nil=>exact absurd hcn KP.ne
  | cons x xs'=>
   rw [hcn] at l
   induction is with
   | nil=>exact nomatch l
   | cons i is'=>exact ⟨_,x,.head _,rfl⟩
 have m0:e0∈bQ Cc (aX scope) is++G:=eY _ he0
 have a0:=iq he0
 obtain ⟨v0,h0⟩:=st'.env.holds m0
 rw [hp0] at h0
 obtain ⟨m,hm,_⟩:=h0
 have pC:iA W F' G (ρ'.drop is.length) [Cc]:=fun a ha=>by
  rw [aV.mp ha,← a0]
  exact ⟨st'.plF e0 m0,fun m=>st'.ownP _ (sub _ m) e0 m0 rfl,fun e he z=>(X.st.priv hC1).2.2.1 e he (z.trans a0),st'.newP e0 m0⟩
 exact ⟨⟨hK,stp,X.step.trans (cG.pop X.st l hC1 (s₁:=s₁) am rfl rfl st' y'),r,X.step.step.lives _ (X.none1 f.hD),(pv' D (.tail _ (.head _))).1,pC,X.step.step.lives _ hC1,f.ne⟩,m,hm⟩
end
theorem qz {e:Expr} {ifs:List Expr} {newAcc:Sem Value} {accO:Obj} {P:List T→Env→Prop}
  (hA:sL n A) (S:dc W sc env G) (st:St W F G ρ s) (KP:fh sc scope) (hv:dM tb (aX scope)=some is) (hcl:clausesOf e=[⟨tgt,iter,ifs,0⟩]) (hns:∀ x,foldedSetIterable iter env x=pure x)
  (hi:cX W C n sc (eval iter) (bA tb sc iter)) (hfreed:accO.isFreed=false)
  (hacc:∀ {E:Value→Shared→Prop} {s:Shared} {Q:Value→Shared→Prop},Q (.ref s.heap.objs.size) { s with heap:=s.heap.push accO }→wpAny (model W.prog W.w) A newAcc Q E s)
  (q:(bf tb sc iter (bA tb sc iter)).run C ρ fun t ρ0=>fW (fV (bf tb sc iter (bA tb sc iter)) ρ0 t) fun xs=>P xs ρ0)
  (loop:∀ xs F'1 ρ0 s₁ s'4 I D Cc hd R,P xs ρ0→(∀ b o,W.h0.get? b=some o→s₁.heap.get? b=some o)→Em W scope (bf tb sc iter (bA tb sc iter)) accO is (compEnvC scope (clos env scope.names []) Cc env) Cc G xs F'1 ρ0 s₁ s'4 I D hd→
   (∀ F' ρ' s' t,St W F' (bQ Cc (aX scope) is++G) ρ' s'→cG G F'1 (bQ Cc (aX scope) is++G) (c8 is ρ0) s₁ F' ρ' s'→iA W F' (bQ Cc (aX scope) is++G) ρ' [I,D]→
    gu W F' s'.heap [D] t (.ref D)→K t (ρ'.drop is.length)→R (.ok .next) s')→
   codeAny (model W.prog W.w) A (.compStart e 0 (.ref I) (.ref D) (compEnvC scope (clos env scope.names []) Cc env)) R s'4)
  (hnone:use=none→∀ D Cc t F' ρ' s',cR W F G ρ s K D Cc t F' ρ' s'→Q (.ref D) s')
  (hsome:∀ u,use=some u→∀ D Cc t F' ρ' s' m,cR W F G ρ s K D Cc t F' ρ' s'→s'.heap.Ns Cc m→wpAny (model W.prog W.w) A (u (.ref D)) (fun _ s''=>∃ m,s''.heap.Ns Cc m∧∀ h',Heap.SameBut Cc s''.heap h'→Q .none { s'' with heap:=h' }) E s') :
  wpAny (model W.prog W.w) A (comprehension e scope env pos newAcc false (eval iter env) use) Q E s:=by
 refine wpAny_comprehension_free hcl hns (DV S KP) KP.kind (fun x hx hl=>by
  obtain ⟨a,b⟩:=x
  obtain rfl:=hl
  exact kN KP.nd hx) (ax (w0 hA S st hi (fun _ _ q=>q) q) (fun x s₁ h'1=>ax h'1 (fun it s₂ h'2=>?_) am) am)
 obtain ⟨xs,ρ0,F'1,I,hd,q,rfl,X⟩:=h'2
 refine hacc ?_
 refine wpAny_newFunctionEnv KP.cell (fun y hy=>nomatch hy) (fun h'1 hns1 hsb1=>?_) KP.kind
 have hC2:s₂.heap.get? (s₂.heap.push accO).objs.size=none:=by
  induction e:s₂.heap.get? (s₂.heap.push accO).objs.size with
  | none=>rfl
  | some o=>exact absurd (ef e) (by rw [Heap.size_push];exact Nat.not_lt.mpr (Nat.le_succ _))
 have hDC:s₂.heap.objs.size≠(s₂.heap.push accO).objs.size:=by rw [Heap.size_push];exact Nat.ne_of_lt (Nat.lt_succ_self _)
 have fi:uC s₂ accO s₂.heap.objs.size (s₂.heap.push accO).objs.size { s₂ with heap:=h'1,toks:=s₂.toks+([]:List (Str×Value)).length }:=
  ⟨aS _,hC2,hDC,fun b o e=>hsb1.extBut b o (fun z=>nn (hC2.symm.trans (z▸e))) (bU _ (bU _ e)),hsb1.extBut _ _ hDC (bU _ (dG _ hfreed)),hns1,rfl,rfl⟩
 refine loop xs F'1 ρ0 s₁ _ I s₂.heap.objs.size (s₂.heap.push accO).objs.size hd _ q X.st.world (Fz S KP hv X fi) fun F' ρ' s' t st' y' pv' r hK=>?_
 obtain ⟨fin,m,hm⟩:=Cm KP hv X fi st' y' pv' r hK
 induction use with
 | none=>exact ⟨_,hm,fun h' hs'=>hnone rfl _ _ _ _ _ _ (fin.touch hs' st)⟩
 | some u=>exact hsome u rfl _ _ _ _ _ _ _ fin hm
end
end
section
theorem Ky {prog:Program} {w:World} {R:Result→Shared→Prop} {kx vx target:Expr} {ifs:List Expr} {it:Value} {D:Addr} (I:Nat→Shared→Prop)
  (turn:∀ n s,I n s→wpAny (model prog w) A (pyNext it) (fun r s₁=>match r with
   | none=>R (.ok .next) s₁
   | some v=>wpAny (model prog w) A (letOwnedTupleGo target it v) (fun _ s₁=>wpAny (model prog w) A (assign target env v) (fun _ s₂=>
     wpAny (model prog w) A (u4 ifs env true) (fun ok s'3=>
      if ok=true then wpAny (model prog w) A (eval kx env) (fun kv s'4=>wpAny (model prog w) A (eval vx env) (fun vv s'5=>
       wpAny (model prog w) A (dictSet D kv vv) (fun _ s'6=>∃ m,m < n∧I m s'6) (notedBy (model prog w) A env fun e s'=>R (.error e) s') s'5) (notedBy (model prog w) A env fun e s'=>R (.error e) s') s'4) (notedBy (model prog w) A env fun e s'=>R (.error e) s') s'3
      else ∃ m,m < n∧I m s'3) (notedBy (model prog w) A env fun e s'=>R (.error e) s') s₂) (notedBy (model prog w) A env fun e s'=>R (.error e) s') s₁) (notedBy (model prog w) A env fun e s'=>R (.error e) s') s₁) (notedBy (model prog w) A env fun e s'=>R (.error e) s') s)
  (n:Nat) (h:I n s):codeAny (model prog w) A (.compLoop (.DictComp kx vx [⟨target,iter,ifs,0⟩] scope pos) 0 it (.ref D) env) R s:=by
 refine codeAny_loop rfl I (fun n s hI=>?_) n h
 show wpAny _ A ((compTurn (.DictComp kx vx [⟨target,iter,ifs,0⟩] scope pos) 0 it (.ref D) env).onRaise (fun x=>do noteFrame x env;theTreesLotGoes x)) _ _ s
 refine wpAny_noted ?_
 rw [compTurn_dict]
 refine ac (dI (ac (ax (turn n s hI) (fun r s₁ h'1=>?_) fun _ _ h'=>h')))
 induction r with
 | none=>exact al h'1
 | some v=>
  refine ac (ax h'1 (fun _ s₁ h'1=>?_) fun _ _ h'=>h')
  refine ac (ax h'1 (fun _ s₂ h'2=>ac (ax h'2 (fun ok s'3 h'3=>?_) fun _ _ h'=>h')) fun _ _ h'=>h')
  induction ok with
  | false=>exact al ⟨rfl,h'3⟩
  | true=>
   exact ac (ac (ax h'3 (fun kv s'4 h'4=>ac (b5 (ax h'4 (fun vv s'5 h'5=>ac (dI (b5 (ax h'5 (fun _ s'6 h'6=>al ⟨rfl,h'6⟩) fun _ _ h'=>h')))) fun _ _ h'=>h'))) fun _ _ h'=>h'))
section
variable {W:Wd} {C:aC} {n:Nat} {sc:PySem.Scope}
inductive O0 (W:Wd) (C:aC) (GG H:List bY) (F'1:Addr→Prop) (ρ1:Env) (s₁:Shared) (I D:Addr) (hd:Hd) (xs:List T) (ok:Env→Prop) (g:mV) (bs:SB) (dk dv:SE) (Q:List (bK×T)→Env→Prop) (k:Nat) (s':Shared):Prop where
 | mk (i:Nat) (F':Addr→Prop) (ρ':Env) (acc:List (bK×T)) (es:List DictEntry) (ep:Nat) (hk:k=xs.length - i) (hi:i≤xs.length) (L:LX W GG H F'1 ρ1 s₁ I D hd i (aL es ep) F' ρ' s') (r:cM W F' s'.heap acc es) (nd:(acc.map (·.1)).Nodup) (hl:acc.length≤SZ) (ho:ok ρ') (q:cT ok g bs dk dv C (xs.drop i) ρ' acc Q)
theorem eQ.vrd {ρ':Env} {G':List bY} {es:List DictEntry} (y:eQ F G ρ s F' G' ρ' s') (x:St W F G ρ s) (r:cM W F s.heap kvs es):cM W F' s'.heap kvs es:=r.mono y.mono fun a o f e=>y.keep a o e (fun m=>x.ownF _ m f) fun e he q=>x.plF e he (q▸f)
theorem N3 {R:Result→Shared→Prop} {s₁ s'4:Shared} {kx vx:Expr} {ifs:List Expr} {cenv:PySem.Env} {GG H:List bY} {F'1 F'4:Addr→Prop} {ρ1:Env} {I D:Addr} {hd:Hd} {xs:List T} {ok:Env→Prop} {g:mV} {bs:SB} {dk dv:SE} {Q:List (bK×T)→Env→Prop}
  (hA:sL n A) (S:dc W sc cenv GG) (hH:∀ x i,cq sc x=true→bp i x→∀ e,first GG i=some e→∀ e'∈H,e'.pl.addr≠e.pl.addr) (hHG:∀ e∈H,e∈GG) (hHl:∀ e∈H,∃ o,s₁.heap.get? e.pl.addr=some o)
  (hg:eM tb sc tgt=some g) (hifs:nv W C n sc (fun env=>u4 ifs env true) bs) (hk':cX W C n sc (eval kx) dk) (hv':cX W C n sc (eval vx) dv)
  (hID:I≠D) (hP:∀ a∈[I,D],s₁.heap.get? a=none) (hIat:I∉hd.at)
  (hsrc:∀ F' ρ' s',St W F' GG ρ' s'→cG H F'1 GG ρ1 s₁ F' ρ' s'→ok ρ'→r6 W F' s'.heap xs hd)
  (fin:∀ F' ρ' s' acc es ep,St W F' GG ρ' s'→cG H F'1 GG ρ1 s₁ F' ρ' s'→iA W F' GG ρ' [I,D]→s'.heap.get? D=some (aL es ep)→cM W F' s'.heap acc es→(acc.map (·.1)).Nodup→acc.length≤SZ→Q acc ρ'→R (.ok .next) s')
  {ρ4:Env} (st:St W F'4 GG ρ4 s'4) (y:cG H F'1 GG ρ1 s₁ F'4 ρ4 s'4) (pv:iA W F'4 GG ρ4 [I,D]) (it:gY s'4.heap I 0 hd) (hD:s'4.heap.get? D=some (aL [] 0)) (h0:ok ρ4) (q:cT ok g bs dk dv C xs ρ4 [] Q) :
  codeAny (model W.prog W.w) A (.compLoop (.DictComp kx vx [⟨tgt,iter,ifs,0⟩] scope pos) 0 (.ref I) (.ref D) cenv) R s'4:=by
 refine Ky (O0 W C GG H F'1 ρ1 s₁ I D hd xs ok g bs dk dv Q) (fun k s' hI=>?_) xs.length ⟨0,F'4,ρ4,[],[],0,rfl,ck _,⟨⟨st,y,pv⟩,it,hD⟩,.nil,cK,ck _,h0,q⟩
 obtain ⟨i,F',ρ',acc,es,ep,hki,hi,L,racc,nd,hl,ho,q⟩:=hI
 refine ax (j8 hA.handled L.lc.pI L.it (hsrc F' ρ' s' L.lc.st L.lc.y ho) hIat) (fun r s₂ z=>?_) am
 have L'2:=L.lc.touch (.head _) hP hHl z.keep z.gens z.os
 have hD2:=z.keep D _ (fun e=>hID e.symm) L.hD
 have racc2:=racc.mono (fun _ f=>f) fun a o f=>z.keep a o (fun e=>L.lc.pI (e▸f))
 induction hx:xs[i]? with
 | none=>
  rw [z.fin hx]
  rw [List.drop_eq_nil_of_le (List.getElem?_eq_none_iff.mp hx),ju] at q
  exact fin F' ρ' s₂ acc es ep L'2.st L'2.y L'2.pv hD2 racc2 nd hl q
 | some x=>
  obtain ⟨v,rv,it2⟩:=z.item hx
  have hlt:i < xs.length:=(hM.mp hx).1
  have L'2:LX W GG H F'1 ρ1 s₁ I D hd (i+1) (aL es ep) F' ρ' s₂:=⟨L'2,it2,hD2⟩
  rw [nj hx,lQ] at q
  refine rg it2 (ax (uH hA.handled S hH hHG hg L'2.lc.st rv q) (fun _ s'3 h'3=>?_) am)
  obtain ⟨ρ3,q,st3,y'3⟩:=h'3
  have L'3:=L'2.step st3 y'3
  refine ax (hifs A cenv F' GG ρ3 s'3 _ _ hA S st3 q) (fun b s'4 h'4=>?_) am
  obtain ⟨F'4,ρ4,q,st4,y'4⟩:=h'4
  have L'4:=L'3.step st4 (y'4.h hHG)
  have racc4:=y'4.step.vrd st3 (y'3.step.vrd L'2.lc.st racc2)
  have hki':=hki▸lD hlt
  induction b with
  | false=>exact ⟨_,hki',i+1,F'4,ρ4,acc,es,ep,rfl,hlt,L'4,racc4,nd,hl,q.1,q.2⟩
  | true=>
   rw [au rfl]
   refine ax (hk' A cenv F'4 GG ρ4 s'4 _ _ hA S st4 q) (fun uk s'5 h'5=>?_) am
   obtain ⟨tk,F'5,ρ5,q,st5,y'5,rk⟩:=h'5
   have L'5:=L'4.step st5 (y'5.h hHG)
   refine ax (hv' A cenv F'5 GG ρ5 s'5 _ _ hA S st5 q) (fun uv s'6 h'6=>?_) am
   obtain ⟨tv,F'6,ρ6,q,st6,y'6,rv⟩:=h'6
   have L'6:=L'5.step st6 (y'6.h hHG)
   obtain ⟨key,hkey,q⟩:=aW q
   obtain ⟨acc',hput,q⟩:=aW q
   refine pV hput fun hh hlt' z2=>?_
   subst z2
   refine pU (eD (Nat.le_add_right _ _) hA.u) L'6.lc.pD L'6.hD (y'6.step.vrd st5 (y'5.step.vrd st4 racc4)) nd hh hlt' (gH hkey▸y'6.step.vr st5 rk) rv fun es' ep' h' tk' hg' hs' r'=>?_
   have hk2:∀ b o,b≠D→s'6.heap.get? b=some o→h'.get? b=some o:=fun b o hb e=>(hs'.2 b hb).trans e
   exact ⟨_,hki',i+1,F'6,ρ6,gZ acc key tv,es',ep',rfl,hlt,⟨L'6.lc.touch (s':={ s'6 with heap:=h',toks:=tk' }) (.tail _ (.head _)) hP hHl hk2 rfl rfl,L'6.it.keep fun o=>hk2 I o hID,hg'⟩,r',kf nd,aH g4 hlt',q.1,q.2⟩
theorem w7 {o:Option SE} (q:Jr o C ρ K) (k:∀ d,o=some d→d C ρ K→P):P:=by
 induction o with
 | none=>exact q.elim
 | some d=>exact k d rfl q
section
variable {F:Addr→Prop} {G:List bY} {ρ:Env} {s:Shared} {A:Around} {E:Value→Shared→Prop} {env:PySem.Env} {Q:Value→Shared→Prop} {K:T→Env→Prop}
theorem tR {ifs:List Expr} (hA:sL n A) (S:dc W sc env G) (st:St W F G ρ s) (hi:cX W C n sc (eval iter) (bA tb sc iter))
  (hifs:∀ c∈ifs,nv W C n scope (fun env=>isTrue c env (eval c env)) (jF tb scope c (bf tb scope c (bA tb scope c)))) (helt:cX W C n scope (eval elt) (bA tb scope elt))
  (q:z4 tb sc scope (eM tb scope tgt) (bf tb sc iter (bA tb sc iter)) (hB tb scope .And ifs) (bA tb scope elt) C ρ K)
  (hnone:use=none→∀ D Cc t F' ρ' s',cR W F G ρ s K D Cc t F' ρ' s'→Q (.ref D) s')
  (hsome:∀ u,use=some u→∀ D Cc t F' ρ' s' m,cR W F G ρ s K D Cc t F' ρ' s'→s'.heap.Ns Cc m→wpAny (model W.prog W.w) A (u (.ref D)) (fun _ s''=>∃ m,s''.heap.Ns Cc m∧∀ h',Heap.SameBut Cc s''.heap h'→Q .none { s'' with heap:=h' }) E s') :
  wpAny (model W.prog W.w) A (comprehension (.ListComp elt [⟨tgt,iter,ifs,0⟩] scope pos) scope env p (newList []) false (eval iter env) use) Q E s:=by
 refine w7 q fun d hd q=>sr hd fun hok hd=>dw hd fun g hg hd=>eT hd fun is his z=>?_
 subst z
 have KP:=sd hok
 have q:(bf tb sc iter (bA tb sc iter)).run C ρ fun t ρ0=>fW (fV (bf tb sc iter (bA tb sc iter)) ρ0 t) fun xs=>cb (mN (bf tb sc iter (bA tb sc iter)) ρ0 is.length) g (hB tb scope .And ifs) (bA tb scope elt) C xs (c8 is ρ0) [] fun l ρ=>K (.list l) (ρ.drop is.length):=q
 rcases yX (env:=env) (iter:=iter) with hns | hbad
 ·refine qz (accO:=seqObj "list" ([]:List Value).toArray 0) (is:=is) hA S st KP his rfl hns hi rfl (fun {E s Q} h=>gy h (by size_fits)) q (fun xs F'1 ρ0 s₁ s'4 I D Cc hd R q hw' L fin=>?_) hnone hsome
  have lp:=Ny (R:=R) (iter:=iter) (pos:=pos) (scope:=scope) hA L.sees L.hH (fun e h=>dq _ h) L.hHl hg (E1 hifs) helt L.hID L.hP L.nin L.len L.src (fun F' ρ' s' acc vs m a b c d e f g=>fin F' ρ' s' _ a b c (.list rfl d f e) g) L.st L.y L.pv L.it L.acc qV q
  exact codeAny_compStart_list lp (z5 L.it lp)
 ·rw [hbad] at q;exact q.elim
theorem ub {kx vx:Expr} {ifs:List Expr} (hw:gW W) (hA:sL n A) (S:dc W sc env G) (st:St W F G ρ s) (hi:cX W C n sc (eval iter) (bA tb sc iter))
  (hifs:∀ c∈ifs,nv W C n scope (fun env=>isTrue c env (eval c env)) (jF tb scope c (bf tb scope c (bA tb scope c)))) (hkx:cX W C n scope (eval kx) (bA tb scope kx)) (hvx:cX W C n scope (eval vx) (bA tb scope vx))
  (q:Av tb sc scope (eM tb scope tgt) (bf tb sc iter (bA tb sc iter)) (hB tb scope .And ifs) (bA tb scope kx) (bA tb scope vx) C ρ K)
  (hnone:use=none→∀ D Cc t F' ρ' s',cR W F G ρ s K D Cc t F' ρ' s'→Q (.ref D) s')
  (hsome:∀ u,use=some u→∀ D Cc t F' ρ' s' m,cR W F G ρ s K D Cc t F' ρ' s'→s'.heap.Ns Cc m→wpAny (model W.prog W.w) A (u (.ref D)) (fun _ s''=>∃ m,s''.heap.Ns Cc m∧∀ h',Heap.SameBut Cc s''.heap h'→Q .none { s'' with heap:=h' }) E s') :
  wpAny (model W.prog W.w) A (comprehension (.DictComp kx vx [⟨tgt,iter,ifs,0⟩] scope pos) scope env p newDict false (eval iter env) use) Q E s:=by
 refine w7 q fun d hd q=>sr hd fun hok hd=>dw hd fun g hg hd=>eT hd fun is his z=>?_
 subst z
 have KP:=sd hok
 have q:(bf tb sc iter (bA tb sc iter)).run C ρ fun t ρ0=>fW (fV (bf tb sc iter (bA tb sc iter)) ρ0 t) fun xs=>cT (mN (bf tb sc iter (bA tb sc iter)) ρ0 is.length) g (hB tb scope .And ifs) (bA tb scope kx) (bA tb scope vx) C xs (c8 is ρ0) [] fun l ρ=>K (.dict l) (ρ.drop is.length):=q
 rcases yX (env:=env) (iter:=iter) with hns | hbad
 ·refine qz (accO:=aL [] 0) (is:=is) hA S st KP his rfl hns hi rfl (fun {E s Q} h=>gy h) q (fun xs F'1 ρ0 s₁ s'4 I D Cc hd R q hw' L fin=>?_) hnone hsome
  have hsys:=Fr hw hw' (L.hP D (by simp))
  have lp:=N3 (R:=R) (iter:=iter) (pos:=pos) (scope:=scope) hA L.sees L.hH (fun e h=>dq _ h) L.hHl hg (E1 hifs) hkx hvx L.hID L.hP L.nin L.src (fun F' ρ' s' acc es ep a b c d e nd f g=>fin F' ρ' s' _ a b c (.dict rfl d f ⟨nd,hsys⟩ e) g) L.st L.y L.pv L.it L.acc qV q
  exact codeAny_compStart_dict lp (z5 L.it lp)
 ·rw [hbad] at q;exact q.elim
end
theorem Ch {ifs:List Expr} (hi:cX W C n sc (eval iter) (bA tb sc iter))
  (hifs:∀ c∈ifs,nv W C n scope (fun env=>isTrue c env (eval c env)) (jF tb scope c (bf tb scope c (bA tb scope c)))) (helt:cX W C n scope (eval elt) (bA tb scope elt)) :
  sq W C n sc (eval (.ListComp elt [⟨tgt,iter,ifs,0⟩] scope pos)) (z4 tb sc scope (eM tb scope tgt) (bf tb sc iter (bA tb sc iter)) (hB tb scope .And ifs) (bA tb scope elt)):=by
 intro A env F G ρ s Q E hA S st q
 rw [arm_eval_ListComp]
 exact tR hA S st hi hifs helt q (fun _ D Cc t F' ρ' s' z=>z.opost) fun u e=>nomatch e
theorem A0 (hw:gW W) {kx vx:Expr} {ifs:List Expr} (hi:cX W C n sc (eval iter) (bA tb sc iter))
  (hifs:∀ c∈ifs,nv W C n scope (fun env=>isTrue c env (eval c env)) (jF tb scope c (bf tb scope c (bA tb scope c)))) (hkx:cX W C n scope (eval kx) (bA tb scope kx)) (hvx:cX W C n scope (eval vx) (bA tb scope vx)) :
  sq W C n sc (eval (.DictComp kx vx [⟨tgt,iter,ifs,0⟩] scope pos)) (Av tb sc scope (eM tb scope tgt) (bf tb sc iter (bA tb sc iter)) (hB tb scope .And ifs) (bA tb scope kx) (bA tb scope vx)):=by
 intro A env F G ρ s Q E hA S st q
 rw [arm_eval_DictComp]
 exact ub hw hA S st hi hifs hkx hvx q (fun _ D Cc t F' ρ' s' z=>z.opost) fun u e=>nomatch e
end
end
section
theorem ma:∀ {es:List Expr},fc tb sc es=es.map (bA tb sc)
 | []=>rfl
 | e::es=>aw (_::·) ma
theorem nV:∀ {es:List Expr},oZ tb sc es=es.map fun e=>bf tb sc e (bA tb sc e)
 | []=>rfl
 | e::es=>aw (_::·) nV
theorem nR:∀ {es:List (Option Expr)},Ao tb sc es=es.map fun o=>match o with | some e=>bA tb sc e | none=>b6
 | []=>rfl
 | none::es=>aw (_::·) nR
 | some e::es=>aw (_::·) nR
theorem sk {e:Expr} (h:tU e=true):∀ es k p,e≠.Set es k p:=fun es k p q=>by rw [q] at h;exact bt h
section
variable {W:Wd} {C:aC} {n:Nat}
noncomputable def fN (W:Wd) (C:aC) (n:Nat) (e:Expr):Prop:=∀ sc,cX W C n sc (eval e) (bA tb sc e)
noncomputable def Jn (W:Wd) (C:aC) (n:Nat) (e:Expr):Prop:=∀ sc,nv W C n sc (fun env=>isTrue e env (eval e env)) (jF tb sc e (bf tb sc e (bA tb sc e)))
theorem yW {op:BoolOp} {vs:List Expr} (H:∀ e∈vs,fN W C n e):fN W C n (.BoolOp op vs pos):=by
 intro sc
 rw [show bA tb sc (.BoolOp op vs pos)=wL op (fc tb sc vs) from rfl,ma]
 match vs with
 | []=>exact bad
 | [a]=>exact bad
 | [a,b]=>exact Cx (H a (by simp) sc) (H b (by simp) sc)
 | a::b::c::r=>exact bad
theorem dX {t:PySem.Env→Sem Value}:sq W C n sc t b6:=fun _ _ _ _ _ _ _ _ _ _ _ q=>q.elim
theorem xN (hw:gW W) {ks:List (Option Expr)} {vs:List Expr} (Hk:∀ e,some e∈ks→fN W C n e) (H:∀ e∈vs,fN W C n e) (sc:PySem.Scope):sq W C n sc (eval (.Dict ks vs pos)) (bA tb sc (.Dict ks vs pos)):=by
 rw [show bA tb sc (.Dict ks vs pos)=dictOf (Ao tb sc ks) (fc tb sc vs) from rfl,ma,nR]
 match ks,vs with
 | [],[]=>exact BQ hw
 | [],v::vs=>exact dX
 | k::ks,[]=>induction ks<;>exact dX
 | [k],[v]=>
  induction k with
  | none=>
   intro A env F G ρ s Q E hA S st q
   exact (show False from q).elim
  | some k=>exact CD hw (Hk k (by simp) sc) (H v (by simp) sc)
 | [k],v::v'::vs=>exact dX
 | k::k'::ks,v::vs=>exact dX
set_option tactic.hygienic true in
theorem rO (H:∀ e∈es,fN W C n e) (sc:PySem.Scope):sq W C n sc (eval (.List es pos)) (bA tb sc (.List es pos)):=by
 rw [show bA tb sc (.List es pos)=if many es then bM (kB (fc tb sc es)) else b6 from rfl]
 split
 ·rename_i hm
  have:es.all cY=true:=by unfold many at hm;rw [bC] at hm;exact hm.1
  exact Dw hm (ki this fun e h=>H e h sc)
 ·exact dX
set_option tactic.hygienic true in
theorem Cl (H:∀ e∈es,fN W C n e):fN W C n (.Tuple es k pos):=by
 intro sc
 rw [show bA tb sc (.Tuple es k pos)=if many es then aO (kB (fc tb sc es)) else b6 from rfl]
 split
 ·rename_i hm
  have:es.all cY=true:=by unfold many at hm;rw [bC] at hm;exact hm.1
  exact KO hm (ki this fun e h=>H e h sc)
 ·exact bad
set_option tactic.hygienic true in
theorem tD (He:fN W C n elt) (H:∀ g∈gs,fN W C n g.iter∧∀ c∈g.ifs,Jn W C n c) (sc:PySem.Scope):sq W C n sc (eval (.ListComp elt gs scope pos)) (bA tb sc (.ListComp elt gs scope pos)):=by
 match gs with
 | []=>
  exact dX
 | [⟨tgt,iter,ifs,a⟩]=>
  show sq W C n sc _ (if a=0 then _ else b6)
  split
  ·rename_i ha
   subst ha
   obtain ⟨h1,h2⟩:=H _ (.head _)
   exact Ch (h1 sc) (fun c m=>h2 c m scope) (He scope)
  ·exact dX
 | _::_::_=>
  exact dX
set_option tactic.hygienic true in
theorem Cp (hw:gW W) {k v:Expr} (Hk:fN W C n k) (Hv:fN W C n v) (H:∀ g∈gs,fN W C n g.iter∧∀ c∈g.ifs,Jn W C n c) (sc:PySem.Scope):sq W C n sc (eval (.DictComp k v gs scope pos)) (bA tb sc (.DictComp k v gs scope pos)):=by
 match gs with
 | []=>
  exact dX
 | [⟨tgt,iter,ifs,a⟩]=>
  show sq W C n sc _ (if a=0 then _ else b6)
  split
  ·rename_i ha
   subst ha
   obtain ⟨h1,h2⟩:=H _ (.head _)
   exact A0 hw (h1 sc) (fun c m=>h2 c m scope) (Hk scope) (Hv scope)
  ·exact dX
 | _::_::_=>
  exact dX
set_option tactic.hygienic true in
theorem G3 {l:Expr} {ops:List CmpOp} {rs:List Expr} (Hl:fN W C n l) (H:∀ e∈rs,fN W C n e):fN W C n (.Compare l ops rs pos):=by
 intro sc
 rw [show bA tb sc (.Compare l ops rs pos)=if rs.all tU then Ja ops (bA tb sc l) (oZ tb sc rs) else b6 from rfl,nV]
 split
 ·rename_i hs
  match ops,rs with
  | [],_=>exact bad
  | [op],[]=>exact bad
  | [op],[r]=>exact KJ (sk (by simpa using hs)) (Hl sc) (m7 (H r (by simp) sc))
  | [op],_::_::_=>exact bad
  | _::_::_,_=>exact bad
 ·exact bad
set_option tactic.hygienic true in
theorem IG {l:Expr} {ops:List CmpOp} {rs:List Expr} (Hl:fN W C n l) (H:∀ e∈rs,fN W C n e):Jn W C n (.Compare l ops rs pos):=by
 intro sc
 rw [show ∀ o,jF tb sc (.Compare l ops rs pos) o=if rs.all tU then De ops (bA tb sc l) (fc tb sc rs) (oZ tb sc rs) else zI from fun o=>rfl,nV,ma]
 split
 ·rename_i hs
  match ops,rs with
  | [],_=>exact w8
  | [op],[]=>exact w8
  | [op],[r]=>exact Gi (sk (by simpa using hs)) (Hl sc) (m7 (H r (by simp) sc))
  | [op],_::_::_=>exact w8
  | [op,op'],[]=>exact w8
  | [op,op'],[r]=>exact w8
  | [op,op'],[m,r]=>
   have hs':tU r=true:=by
    rw [List.all_cons,List.all_cons,bC,bC] at hs
    exact hs.2.1
   exact CR (sk hs') (Hl sc) (H m (by simp) sc) (H r (by simp) sc)
  | [op,op'],_::_::_::_=>exact w8
  | _::_::_::_,_=>exact w8
 ·exact w8
theorem xp {p x:Nat} (h:zO tb sc args p=some x) (k:∀ y pn,args[p]? = some (.Name y pn)→cU sc y=true→bp x y→P):P:=dw h fun e h1 h2=>ka h2 fun y pn h3 h4 h5=>k y pn (h1.trans (aw some h3)) h4 (dg h5)
theorem El {c:Nat} (h:tb.cls y=some (c,i)):(y==("__debug__":Str))=false:=by
 refine eG.mpr fun e=>?_
 subst e
 have:tb.cls ("__debug__":Str)=none:=by decide +kernel
 rw [this] at h;exact nn h
noncomputable def O3 (sc:PySem.Scope) (args:List Expr):Option jf:=match args with | [_]=>(oZ tb sc args)[0]? | _=>none
theorem tV (h:(cw sc x&&gX args&&x != ("__debug__":Str))=true):cw sc x=true∧gX args=true∧(x==("__debug__":Str))=false:=
 have h1:=cB.mp h
 ⟨(cB.mp h1.1).1,(cB.mp h1.1).2,eG.mpr (bne_iff_ne.mp h1.2)⟩
theorem mH:bA tb sc (.Call (.Name x px) args [] pos)=FQ tb sc x args (kB (fc tb sc args)) (fun p=>kB ((fc tb sc args).eraseIdx p)) (fc tb sc args)[0]? (O3 sc args):=rfl
theorem vX (hw:gW W) (hC:cz W C n) (H:∀ e∈args,fN W C n e):fN W C n (.Call (.Name x px) args [] pos):=by
 intro sc
 rw [mH]
 have HL:gX args=true→xS W C n sc args (kB (fc tb sc args)):=fun hf=>ki (bu hf) fun e h=>H e h sc
 refine vK fun d h=>sr h fun hc h=>?_
 obtain ⟨hg,hf,hd⟩:=tV hc
 unfold EZ at h
 induction hcls:tb.cls x with
 | some c=>rw [hcls] at h;exact az h▸MA hw hC hg hd hf hcls (HL hf)
 | none=>
  rw [hcls] at h
  induction hfn:tb.fn x with
  | some p=>
   rw [hfn] at h
   obtain ⟨i,r⟩:=p
   induction r with
   | none=>exact az h▸Ht hw hC hg hd hf hfn (HL hf)
   | some p=>exact eT h fun y hy z=>xp hy fun w pn h1 h2 h3=>z▸y7 hw hC hg hd hf hfn h1 h2 h3 fun e h=>H e h sc
  | none=>
   rw [hfn] at h
   refine kz h (fun hx h=>?_) fun h=>?_
   ·subst hx
    refine dw h fun s hs h=>dw h fun q hq h=>dw h fun c hc h=>sr h fun hy h=>eT h fun p hp z=>lR hc fun pc hpc=>?_
    have ha:=xr hq
    rw [hpc] at ha
    subst ha
    obtain rfl:=az hs
    exact z▸AY hw hg hf hy (El hp) hp (H q.1 (.head _) sc)
   ·refine dw h fun b hb h=>eT h fun o ho z=>?_
    induction args with
    | nil=>exact nn ho
    | cons a r=>
     induction r with
     | cons=>exact nn ho
     | nil=>
      obtain rfl:=az ho
      exact z▸Nu hw hg hd (cB.mp (bu hf)).1 hb (m7 (H a (.head _) sc))
set_option tactic.hygienic true in
theorem vE (hw:gW W) (hC:cz W C n) {o:Expr} {m:Str} (Ho:fN W C n o) (H:∀ e∈args,fN W C n e):fN W C n (.Call (.Attribute o m ap) args [] pos):=by
 intro sc
 rw [show bA tb sc (.Call (.Attribute o m ap) args [] pos)=yH tb m o ap pos args (bA tb sc o) (bf tb sc o (bA tb sc o)) (kB (fc tb sc args)) from rfl]
 unfold yH
 split
 ·rename_i hc
  rw [bC,bC] at hc
  obtain ⟨⟨hb,hf⟩,hp⟩:=hc
  have HL:xS W C n sc args (kB (fc tb sc args)):=ki (bu hf) fun e h=>H e h sc
  split
  ·rename_i hm;exact EO hb hf hp hm (Ho sc) HL
  ·rename_i b hv hm;exact Ku hb hf hp hm hv (Ho sc) HL
  ·split
   ·rename_i i hi;exact HB hw hC hb hf hp (dg hi) (Ho sc) HL
   ·exact bad
 ·exact bad
theorem Dn (hw:gW W) (hC:cz W C n) {f:Expr} (Hf:∀ o m ap,f=.Attribute o m ap→fN W C n o) (H:∀ e∈args,fN W C n e):fN W C n (.Call f args ks pos):=by
 induction ks with
 | cons k ks=>intro sc;exact bad
 | nil=>
  cases f with
  | Name x px=>exact vX hw hC H
  | Attribute o m ap=>exact vE hw hC (Hf o m ap rfl) H
  | _=>intro sc;exact bad
theorem G8 {v s:Expr} (Hv:fN W C n v) (Hs:fN W C n s) (Hl:∀ lo hi st p,s=.Slice lo hi st p→(∀ e,lo=some e→fN W C n e)∧∀ e,hi=some e→fN W C n e):fN W C n (.Subscript v s pos):=by
 intro sc
 by_cases hs:∃ lo hi st p,s=.Slice lo hi st p
 ·obtain ⟨lo,hi,st,p,rfl⟩:=hs
  obtain ⟨h1,h2⟩:=Hl lo hi st p rfl
  induction st with
  | some st=>exact bad
  | none=>
   induction lo with
   | none=>
    induction hi with
    | none=>exact bad
    | some hi=>exact EE (Hv sc) (h2 hi rfl sc)
   | some lo=>
    induction hi with
    | none=>exact bad
    | some hi=>exact Mm (Hv sc) (h1 lo rfl sc) (h2 hi rfl sc)
 ·rw [show bA tb sc (.Subscript v s pos)=E2 (bA tb sc v) (bf tb sc v (bA tb sc v)) (bA tb sc s) none none false by
   cases s with
   | Slice lo hi st p=>exact absurd ⟨lo,hi,st,p,rfl⟩ hs
   | _=>rfl]
  exact Kx (Hv sc) (Hs sc)
theorem BK {op:BoolOp} {vs:List Expr} (H:∀ e∈vs,Jn W C n e) (sc:PySem.Scope):nv W C n sc (fun env=>allTrue op vs env) (hB tb sc op vs):=by
 induction vs with
 | nil=>induction op<;>exact IP
 | cons e vs ih=>exact F5 (H e (.head _) sc) (ih fun e h=>H e (.tail _ h))
structure PE (W:Wd) (C:aC) (n:Nat) (e:Expr):Prop where
 e_:fN W C n e
 b:Jn W C n e
 at_:∀ o m ap,e=.Attribute o m ap→fN W C n o
 sl:∀ lo hi st p,e=.Slice lo hi st p→(∀ x,lo=some x→fN W C n x)∧∀ x,hi=some x→fN W C n x
theorem gC {e:Expr} (h:fN W C n e) (he:∀ env,isTrue e env (eval e env)=(do let v ← eval e env;standAt e.pos;holding [v] (truthy v))) (hd:∀ sc o,jF tb sc e o=cQ o):Jn W C n e:=fun sc=>by rw [hd];exact A9 (m7 (h sc)) he
theorem Fp {e:Expr} (h:∀ sc,bA tb sc e=b6):fN W C n e:=fun sc=>by rw [h];exact bad
theorem PE.bad {e:Expr} (h:∀ sc,bA tb sc e=b6) (he:∀ env,isTrue e env (eval e env)=(do let v ← eval e env;standAt e.pos;holding [v] (truthy v))) (hd:∀ sc o,jF tb sc e o=cQ o)
  (ha:∀ o m ap,e=.Attribute o m ap→fN W C n o) (hs:∀ lo hi st p,e=.Slice lo hi st p→(∀ x,lo=some x→fN W C n x)∧∀ x,hi=some x→fN W C n x):PE W C n e:=⟨Fp h,gC (Fp h) he hd,ha,hs⟩
noncomputable def PG (W:Wd) (C:aC) (n:Nat) (g:Comprehension):Prop:=fN W C n g.iter∧∀ c∈g.ifs,Jn W C n c
theorem Ah (hw:gW W) (hC:cz W C n) (e:Expr):PE W C n e:=by
 apply Expr.rec (motive_1:=PE W C n) (motive_2:=fun _=>True) (motive_3:=PG W C n) (motive_4:=fun _=>True) (motive_5:=fun _=>True) (motive_6:=fun _=>True) (motive_7:=fun _=>True) (motive_8:=fun _=>True) (motive_9:=fun _=>True) (motive_10:=fun _=>True) (motive_11:=fun _=>True)
  (motive_12:=fun es=>∀ x∈es,PE W C n x) (motive_13:=fun es=>∀ x,some x∈es→PE W C n x) (motive_14:=fun gs=>∀ g∈gs,PG W C n g) (motive_15:=fun o=>∀ x,o=some x→PE W C n x)
  (motive_16:=fun _=>True) (motive_17:=fun _=>True) (motive_18:=fun _=>True) (motive_19:=fun _=>True) (motive_20:=fun _=>True) (motive_21:=fun _=>True) (motive_22:=fun _=>True) (motive_23:=fun _=>True) (motive_24:=fun _=>True) (motive_25:=fun _=>True) (t:=e)
 case BoolOp=>exact fun op vs pos ih=>⟨yW fun x m=>(ih x m).e_,BK fun x m=>(ih x m).b,fun _ _ _=>Expr.noConfusion,fun _ _ _ _=>Expr.noConfusion⟩
 case BinOp=>exact fun l op r pos hl hr=>have h:fN W C n _:=fun sc=>MY (hl.e_ sc) (hr.e_ sc);⟨h,gC h (fun _=>rfl) fun _ _=>rfl,fun _ _ _=>Expr.noConfusion,fun _ _ _ _=>Expr.noConfusion⟩
 case UnaryOp=>
  intro op x pos hx
  refine ⟨?_,?_,fun _ _ _=>Expr.noConfusion,fun _ _ _ _=>Expr.noConfusion⟩
  ·induction op with
   | USub=>exact fun sc=>D6 (hx.e_ sc)
   | _=>exact Fp fun _=>rfl
  ·induction op with
   | USub=>exact gC (fun sc=>D6 (hx.e_ sc)) (fun _=>rfl) fun _ _=>rfl
   | Not=>exact fun sc=>HH (hx.b sc)
   | _=>exact gC (Fp fun _=>rfl) (fun _=>rfl) fun _ _=>rfl
 case IfExp=>exact fun t b o pos ht hb ho=>⟨fun sc=>MN (ht.b sc) (hb.e_ sc) (ho.e_ sc),fun sc=>IS (ht.b sc) (hb.b sc) (ho.b sc),fun _ _ _=>Expr.noConfusion,fun _ _ _ _=>Expr.noConfusion⟩
 case Dict=>exact fun ks vs pos hk hv=>have h:fN W C n (.Dict ks vs pos):=fun sc=>(xN hw (fun x m=>(hk x m).e_) (fun x m=>(hv x m).e_) sc).e;⟨h,gC h (fun _=>rfl) fun _ _=>rfl,fun _ _ _=>Expr.noConfusion,fun _ _ _ _=>Expr.noConfusion⟩
 case ListComp=>exact fun elt gs scope pos h1 h2=>have h:fN W C n (.ListComp elt gs scope pos):=fun sc=>(tD h1.e_ h2 sc).e;⟨h,gC h (fun _=>rfl) fun _ _=>rfl,fun _ _ _=>Expr.noConfusion,fun _ _ _ _=>Expr.noConfusion⟩
 case DictComp=>exact fun k v gs scope pos h1 h2 h3=>have h:fN W C n (.DictComp k v gs scope pos):=fun sc=>(Cp hw h1.e_ h2.e_ h3 sc).e;⟨h,gC h (fun _=>rfl) fun _ _=>rfl,fun _ _ _=>Expr.noConfusion,fun _ _ _ _=>Expr.noConfusion⟩
 case Compare=>exact fun l ops rs pos hl hr=>⟨G3 hl.e_ fun x m=>(hr x m).e_,IG hl.e_ fun x m=>(hr x m).e_,fun _ _ _=>Expr.noConfusion,fun _ _ _ _=>Expr.noConfusion⟩
 case Call=>exact fun f args ks pos hf ha _=>have h:fN W C n (.Call f args ks pos):=Dn hw hC hf.at_ fun x m=>(ha x m).e_;⟨h,gC h (fun _=>rfl) fun _ _=>rfl,fun _ _ _=>Expr.noConfusion,fun _ _ _ _=>Expr.noConfusion⟩
 case Constant=>exact fun c j pos=>have h:fN W C n (.Constant c j pos):=fun sc=>DB;⟨h,gC h (fun _=>rfl) fun _ _=>rfl,fun _ _ _=>Expr.noConfusion,fun _ _ _ _=>Expr.noConfusion⟩
 case Attribute=>exact fun v a pos hv=>have h:fN W C n (.Attribute v a pos):=fun sc=>Hn hw (m7 (hv.e_ sc));⟨h,gC h (fun _=>rfl) fun _ _=>rfl,fun o m ap z=>(Expr.Attribute.inj z).1▸hv.e_,fun _ _ _ _=>Expr.noConfusion⟩
 case Subscript=>exact fun v s pos hv hs=>have h:fN W C n (.Subscript v s pos):=G8 hv.e_ hs.e_ hs.sl;⟨h,gC h (fun _=>rfl) fun _ _=>rfl,fun _ _ _=>Expr.noConfusion,fun _ _ _ _=>Expr.noConfusion⟩
 case Name=>exact fun x pos=>have h:fN W C n (.Name x pos):=fun sc=>GZ hw;⟨h,gC h (fun _=>rfl) fun _ _=>rfl,fun _ _ _=>Expr.noConfusion,fun _ _ _ _=>Expr.noConfusion⟩
 case List=>exact fun es pos ih=>have h:fN W C n (.List es pos):=fun sc=>(rO (fun x m=>(ih x m).e_) sc).e;⟨h,gC h (fun _=>rfl) fun _ _=>rfl,fun _ _ _=>Expr.noConfusion,fun _ _ _ _=>Expr.noConfusion⟩
 case Tuple=>exact fun es j pos ih=>have h:fN W C n (.Tuple es j pos):=Cl fun x m=>(ih x m).e_;⟨h,gC h (fun _=>rfl) fun _ _=>rfl,fun _ _ _=>Expr.noConfusion,fun _ _ _ _=>Expr.noConfusion⟩
 case Slice=>exact fun lo hi st pos h1 h2 _=>have h:fN W C n (.Slice lo hi st pos):=Fp fun _=>rfl;⟨h,gC h (fun _=>rfl) fun _ _=>rfl,fun _ _ _=>Expr.noConfusion,fun l h s p z=>⟨fun x e=>(h1 x ((Expr.Slice.inj z).1.trans e)).e_,fun x e=>(h2 x ((Expr.Slice.inj z).2.1.trans e)).e_⟩⟩
 case mk=>exact fun t i ifs a _ hi hf=>⟨hi.e_,fun c m=>(hf c m).b⟩
 all_goals first
  | (intros;trivial)
  | exact fun _ _ h1 h2 x m=>(aU.mp m).elim (fun e=>e▸h1) (h2 x)
  | exact fun _ _ h1 h2 x m=>(aU.mp m).elim (fun e=>h1 x e.symm) (h2 x)
  | exact fun _ h x e=>az e▸h
  | (intros;exact PE.bad (fun _=>rfl) (fun _=>rfl) (fun _ _=>rfl) (fun _ _ _=>Expr.noConfusion) fun _ _ _ _=>Expr.noConfusion)
theorem rA (hw:gW W) (hC:cz W C n) (e:Expr):fN W C n e:=(Ah hw hC e).e_
theorem Ob (hw:gW W) (hC:cz W C n) (e:Expr):Jn W C n e:=(Ah hw hC e).b
end
end
section
inductive NZ (W:Wd) (F:Addr→Prop) (h:Heap):Fl→Flow→Prop
 | next:NZ W F h .next .next
 | cont:NZ W F h .cont .cont
 | brk:NZ W F h .brk .brk
 | ret (t:T) (v:Value) (r:VR W F h t v):NZ W F h (.ret t) (.ret v)
inductive jH (W:Wd) (F:Addr→Prop) (G:List bY) (ρ:Env) (s:Shared) (Q:Fl→Env→Prop) (f:Flow) (s':Shared):Prop where
 | mk (fl:Fl) (F':Addr→Prop) (G':List bY) (ρ':Env) (h1:Q fl ρ') (h2:NZ W F' s'.heap fl f) (h3:St W F' G' ρ' s') (h4:eQ F G ρ s F' G' ρ' s')
noncomputable def mS (W:Wd) (C:aC) (n:Nat) (sc:PySem.Scope) (t:PySem.Env→Sem Flow) (d:SS):Prop:=
 ∀ A env F G ρ s Q E,sL n A→dc W sc env G→St W F G ρ s→d C ρ Q→wpAny (model W.prog W.w) A (t env) (jH W F G ρ s Q) E s
section
variable {W:Wd} {F F'1:Addr→Prop} {G G'1:List bY} {ρ ρ1:Env} {s s₁ s₂:Shared}
theorem jH.after {Q:Fl→Env→Prop} {f:Flow} (y:eQ F G ρ s F'1 G'1 ρ1 s₁) (x:jH W F'1 G'1 ρ1 s₁ Q f s₂):jH W F G ρ s Q f s₂:=
 let ⟨fl,F',G',ρ',a,b,c,d⟩:=x;⟨fl,F',G',ρ',a,b,c,y.trans d⟩
end
section
variable {W:Wd} {C:aC} {n:Nat} {sc:PySem.Scope}
theorem pN {t:PySem.Env→Sem Flow}:mS W C n sc t tY:=fun _ _ _ _ _ _ _ _ _ _ _ q=>q.elim
theorem It:mS W C n sc (execs []) aj:=by
 intro A env F G ρ s Q E hA S st q
 rw [arm_execs_nil]
 exact al ⟨.next,F,G,ρ,q,.next,st,.refl⟩
theorem FS {x:Stmt} {xs:List Stmt} {a b:SS} (ha:mS W C n sc (exec x) a) (hb:mS W C n sc (execs xs) b):mS W C n sc (execs (x::xs)) (ai a b):=by
 intro A env F G ρ s Q E hA S st q
 rw [arm_execs_cons]
 refine ac (ax (ha A env F G ρ s _ E hA S st q) (fun f s₁ h'1=>?_) am)
 obtain ⟨fl,F'1,G'1,ρ1,q,r,st1,y'1⟩:=h'1
 induction r with
 | next=>exact ax (hb A env F'1 G'1 ρ1 s₁ _ E hA (S.sh y'1.sh) st1 q) (fun _ _ z=>z.after y'1) am
 | cont=>exact al ⟨.cont,F'1,G'1,ρ1,q,.cont,st1,y'1⟩
 | brk=>exact al ⟨.brk,F'1,G'1,ρ1,q,.brk,st1,y'1⟩
 | ret t v r=>exact al ⟨.ret t,F'1,G'1,ρ1,q,.ret _ _ r,st1,y'1⟩
theorem En:mS W C n sc (exec (.Pass pos)) aj:=by
 intro A env F G ρ s Q E hA S st q
 rw [arm_exec_Pass]
 exact ac (dI (al ⟨.next,F,G,ρ,q,.next,st,.refl⟩))
theorem Dx:mS W C n sc (exec (.Continue pos)) Ey:=by
 intro A env F G ρ s Q E hA S st q
 rw [arm_exec_Continue]
 exact ac (dI (al ⟨.cont,F,G,ρ,q,.cont,st,.refl⟩))
theorem Hq {e:Expr} {d:SE} (h:cX W C n sc (eval e) d):mS W C n sc (exec (.Return (some e) pos)) (aR d):=by
 intro A env F G ρ s Q E hA S st q
 refine wpAny_Return_some (ax (h A env F G ρ s _ E hA S st q) (fun v s₁ h'1=>?_) am)
 obtain ⟨t,F'1,ρ1,q,st1,y'1,r⟩:=h'1
 exact ⟨.ret t,F'1,G,ρ1,q,.ret _ _ r,st1,y'1.step⟩
theorem KM {test:Expr} {o:List Stmt} {c:SB} {db do':SS} (hc:nv W C n sc (fun env=>isTrue test env (eval test env)) c) (hb:mS W C n sc (execs b) db) (ho:mS W C n sc (execs o) do') :
  mS W C n sc (exec (.If test b o pos)) (fu c db do'):=by
 intro A env F G ρ s Q E hA S st q
 rw [arm_exec_If]
 refine ac (dI (ac (ax (hc A env F G ρ s _ E hA S st q) (fun t s₁ h'1=>?_) am)))
 obtain ⟨F'1,ρ1,q,st1,y'1⟩:=h'1
 induction t with
 | true=>exact ax (hb A env F'1 G ρ1 s₁ _ E hA S st1 q) (fun _ _ z=>z.after y'1.step) am
 | false=>exact ax (ho A env F'1 G ρ1 s₁ _ E hA S st1 q) (fun _ _ z=>z.after y'1.step) am
inductive OZ (W:Wd) (C:aC) (F:Addr→Prop) (G:List bY) (ρ:Env) (s:Shared) (c:SB) (db:SS) (Q:Fl→Env→Prop) (m:Nat) (s':Shared):Prop where
 | mk (F':Addr→Prop) (G':List bY) (ρ':Env) (st:St W F' G' ρ' s') (y:eQ F G ρ s F' G' ρ' s') (q:kc c db C m ρ' Q)
theorem BI {test:Expr} {c:SB} {db:SS} (hc:nv W C n sc (fun env=>isTrue test env (eval test env)) c) (hb:mS W C n sc (execs b) db):mS W C n sc (exec (.While test b [] pos)) (rM c db):=by
 intro A env F G ρ s Q E hA S st q
 obtain ⟨k,q⟩:=q
 refine wpAny_While (codeAny_whileLoop (OZ W C F G ρ s c db Q) (fun m s' I=>?_) k ⟨F,G,ρ,st,.refl,q⟩)
 obtain ⟨F',G',ρ',st',y',q⟩:=I
 induction m with
 | zero=>exact q.elim
 | succ m=>
  have S':=S.sh y'.sh
  refine ax (hc A env F' G' ρ' s' _ _ hA S' st' q) (fun t s₁ h'1=>?_) am
  obtain ⟨F'1,ρ1,q,st1,y'1⟩:=h'1
  induction t with
  | false=>
   rw [av (by decide)]
   exact wpAny_execs_nil ⟨.next,F'1,G',ρ1,q,.next,st1,y'.trans y'1.step⟩
  | true=>
   refine Eq.symm (au rfl)▸?_
   refine ax (hb A env F'1 G' ρ1 s₁ _ _ hA S' st1 q) (fun f s₂ h'2=>?_) am
   obtain ⟨fl,F'2,G'2,ρ2,q,r,st2,y'2⟩:=h'2
   have y:=(y'.trans y'1.step).trans y'2
   induction r with
   | next=>exact ⟨m,Nat.lt_succ_self _,F'2,G'2,ρ2,st2,y,q⟩
   | cont=>exact ⟨m,Nat.lt_succ_self _,F'2,G'2,ρ2,st2,y,q⟩
   | brk=>exact ⟨.next,F'2,G'2,ρ2,q,.next,st2,y⟩
   | ret t v r=>exact ⟨.ret t,F'2,G'2,ρ2,q,.ret _ _ r,st2,y⟩
structure FX (W:Wd) (F:Addr→Prop) (G:List bY) (ρ:Env) (s:Shared) (F'1:Addr→Prop) (s₁:Shared) (I:Addr) (F':Addr→Prop) (G':List bY) (ρ':Env) (s':Shared):Prop where
 st:St W F' G' ρ' s'
 y:eQ F G ρ s F' G' ρ' s'
 mono:∀ a,F'1 a→F' a
 keep:∀ a o,F'1 a→s₁.heap.get? a=some o→s'.heap.get? a=some o
 pv:iA W F' G' ρ' [I]
inductive PT (W:Wd) (C:aC) (F:Addr→Prop) (G:List bY) (ρ:Env) (s:Shared) (F'1:Addr→Prop) (s₁:Shared) (I:Addr) (hd:Hd) (xs:List T) (g:mV) (db:SS) (Q:Fl→Env→Prop) (m:Nat) (s':Shared):Prop where
 | mk (i:Nat) (F':Addr→Prop) (G':List bY) (ρ':Env) (hm:m=xs.length - i) (hle:i≤xs.length) (X:FX W F G ρ s F'1 s₁ I F' G' ρ' s') (it:gY s'.heap I i hd) (q:eV g db C (xs.drop i) ρ' Q)
section
variable {F F'1 F'2 F':Addr→Prop} {G G'2 G':List bY} {ρ ρ2 ρ':Env} {s s₁ s₂ s':Shared} {I:Addr} {hd:Hd} {i:Nat} {xs:List T} {r:Option Value}
theorem FX.step (X:FX W F G ρ s F'1 s₁ I F'2 G'2 ρ2 s₂) (st:St W F' G' ρ' s') (y:eQ F'2 G'2 ρ2 s₂ F' G' ρ' s') (l:∃ o,s₂.heap.get? I=some o):FX W F G ρ s F'1 s₁ I F' G' ρ' s':=
 ⟨st,X.y.trans y,fun a f=>y.mono a (X.mono a f),fun a o f e=>y.keep a o (X.keep a o f e) (fun z=>X.st.ownF _ z (X.mono a f)) fun e he q=>X.st.plF e he (q▸X.mono a f),X.pv.step y fun a m=>aV.mp m▸l⟩
theorem FX.it (X:FX W F G ρ s F'1 s₁ I F'2 G'2 ρ2 s₂) (y:eQ F'2 G'2 ρ2 s₂ F' G' ρ' s') (it:gY s₂.heap I i hd):gY s'.heap I i hd:=it.keep fun o=>X.pv.keep y (.head _)
theorem FX.next (X:FX W F G ρ s F'1 s₁ I F'2 G'2 ρ2 s₂) (sI:s.heap.get? I=none) (z:k4 W F'2 I i hd xs s₂ r s'):FX W F G ρ s F'1 s₁ I F'2 G'2 ρ2 s':=
 have hk:∀ b o,b∉[I]→s₂.heap.get? b=some o→s'.heap.get? b=some o:=fun b o hb=>z.keep b o fun e=>hb (e▸.head _)
 ⟨X.st.touch X.pv hk,X.y.touch (P:=[I]) (fun a m=>aV.mp m▸sI) hk z.gens z.os,X.mono,fun a o f e=>z.keep a o (fun m=>(X.pv I (.head _)).1 (m▸X.mono a f)) (X.keep a o f e),X.pv⟩
end
theorem Er {I:Addr} (st:St W F G ρ s) (h:s.heap.get? I=none):iA W F G ρ [I]:=fun a m=>by
 refine Eq.symm (aV.mp m)▸?_
 refine ⟨fun f=>?_,fun m=>?_,fun e he z=>?_,?_⟩
 ·obtain ⟨o,e⟩:=st.live _ f;exact nn (h.symm.trans e)
 ·obtain ⟨o,e⟩:=st.env.live m;exact nn (h.symm.trans e)
 ·obtain ⟨o,e⟩:=st.env.liveP he;exact nn (h.symm.trans (z▸e))
 ·induction e:W.h0.get? I with
  | none=>rfl
  | some o=>exact nn (h.symm.trans (st.world I o e))
theorem HQ {g:mV} {db:SS} (hi:cX W C n sc (eval iter) (bA tb sc iter)) (hg:eM tb sc tgt=some g) (hb:mS W C n sc (execs b) db):mS W C n sc (exec (.For tgt iter b [] pos)) (fP (bf tb sc iter (bA tb sc iter)) g db):=by
 intro A env F G ρ s Q E hA S st q
 have hs:=yX (sc:=sc) (env:=env) (iter:=iter)
 rcases hs with hs | hs
 ·refine wpAny_For (ax (w0 hA S st hi (P:=fun xs ρ0=>iZ (bf tb sc iter (bA tb sc iter)) ρ0=none∧eV g db C xs ρ0 Q) (fun t ρ0 h=>?_) q) (fun x s₁ h'1=>ax h'1 (fun it s₂ h'2=>?_) am) am) hs
  ·obtain ⟨h1,h2⟩:=h
   obtain ⟨xs,hx,h2⟩:=aW h2
   refine ab (a:=xs) ?_ ⟨h1,h2⟩
   unfold fV
   refine Eq.symm (h1)▸?_;exact hx
  ·obtain ⟨xs,ρ0,F'1,I,hd,⟨ho,q⟩,rfl,X⟩:=h'2
   have sI:s.heap.get? I=none:=X.step.step.lives _ X.new
   obtain ⟨st2,y'2⟩:=X.st.grow X.grow
   refine codeAny_forLoop_any (PT W C F G ρ s F'1 s₁ I hd xs g db Q) (fun m s' II=>?_) xs.length
    ⟨0,F'1,G,ρ0,rfl,ck _,⟨st2,(X.step.trans y'2).step,fun _ f=>f,fun a o _ e=>X.grow.keep a o e,Er X.st X.new⟩,X.it,q⟩
   obtain ⟨i,F',G',ρ',hm,hle,Y,it,q⟩:=II
   have S':=S.sh Y.y.sh
   refine ax (j8 hA.handled (Y.pv I (.head _)).1 it (X.fz ho F' s' Y.mono Y.keep) X.nin) (fun r s'3 z=>?_) am
   have Y3:=Y.next sI z
   induction hx:xs[i]? with
   | none=>
    refine Eq.symm (z.fin hx)▸?_
    rw [List.drop_eq_nil_of_le (List.getElem?_eq_none_iff.mp hx),ng] at q
    exact wpAny_execs_nil ⟨.next,F',G',ρ',q,.next,Y3.st,Y3.y⟩
   | some x=>
    obtain ⟨v,rv,it3⟩:=z.item hx
    have hlt:i < xs.length:=(hM.mp hx).1
    rw [nj hx,lw] at q
    refine rg it3 (ax (uH (H:=[]) hA.handled S' (fun _ _ _ _ _ _ _ m=>nomatch m) (fun _ m=>nomatch m) hg Y3.st rv q) (fun _ s'4 h'4=>?_) am)
    obtain ⟨ρ4,q,st4,y'4⟩:=h'4
    have Y4:=Y3.step st4 y'4.step it3.live
    have it4:=Y3.it y'4.step it3
    refine ax (hb A env F' G' ρ4 s'4 _ _ hA S' st4 q) (fun f s'5 h'5=>?_) am
    obtain ⟨fl,F'5,G'5,ρ5,q,r,st5,y'5⟩:=h'5
    have Y5:=Y4.step st5 y'5 it4.live
    have it5:=Y4.it y'5 it4
    have hm':=hm▸lD hlt
    induction r with
    | next=>exact ⟨_,hm',i+1,F'5,G'5,ρ5,rfl,hlt,Y5,it5,q⟩
    | cont=>exact ⟨_,hm',i+1,F'5,G'5,ρ5,rfl,hlt,Y5,it5,q⟩
    | brk=>exact ⟨.next,F'5,G'5,ρ5,q,.next,st5,Y5.y⟩
    | ret t v r=>exact ⟨.ret t,F'5,G'5,ρ5,q,.ret _ _ r,st5,Y5.y⟩
 ·rw [hs] at q;exact q.elim
end
end
section
noncomputable def u6:Expr→Bool
 | .ListComp _ _ _ _=>true
 | .DictComp _ _ _ _ _=>true
 | .SetComp _ _ _ _=>true
 | _=>false
noncomputable def NL (v t:Expr) (line:Nat) (env:PySem.Env):Prop:=∃ b,swapsWith v (some t) line env=pure b∧(b=true→(∃ x p,t=.Name x p)∧u6 v=true)
theorem NL.r {v t:Expr} {line:Nat} (h:swapsWith v (some t) line env=pure false):NL v t line env:=⟨false,h,fun e=>nomatch e⟩
theorem NL.l {v:Expr} {b:Bool} {line:Nat} (h:swapsWith v (some (.Name x p)) line env=pure b) (hc:u6 v=true):NL v (.Name x p) line env:=⟨b,h,fun _=>⟨⟨_,_,rfl⟩,hc⟩⟩
theorem FL {v t:Expr} {line:Nat}:NL v t line env:=by
 cases v with
 | ListComp _ _ _ _=>cases t with
  | Name x p=>exact .l rfl rfl
  | _=>exact .r rfl
 | SetComp _ _ _ _=>cases t with
  | Name x p=>exact .l rfl rfl
  | _=>exact .r rfl
 | DictComp _ _ _ _ _=>cases t with
  | Name x p=>exact .l rfl rfl
  | _=>exact .r rfl
 | _=>exact .r rfl
noncomputable def Ph (t v:Expr) (env:PySem.Env):Prop:=(∀ ts k p,t=.Tuple ts k p→mO v=false)→(∀ ts p,t≠.List ts p)→swappedStores [t] v env=pure none
theorem Ph.r {v t:Expr} (h:swappedStores [t] v env=pure none):Ph t v env:=fun _ _=>h
theorem eN {t v:Expr}:Ph t v env:=by
 cases t with
 | Tuple ts k p=>cases v with
  | Tuple _ _ _=>exact fun h _=>nomatch h ts k p rfl
  | _=>exact .r rfl
 | List ts p=>exact fun _ h=>absurd rfl (h ts p)
 | _=>exact .r rfl
section
variable {W:Wd} {C:aC} {n:Nat} {sc:PySem.Scope} {F F'0:Addr→Prop} {G:List bY} {ρ ρ0:Env} {s s'0:Shared} {M:Model} {A:Around} {E:Value→Shared→Prop} {env:PySem.Env}
inductive j4 (W:Wd) (F'0:Addr→Prop) (G:List bY) (ρ0:Env) (s'0:Shared) (F:Addr→Prop) (ρ:Env) (s:Shared) (i:Nat) (sl:Slot) (as:List Addr) (s':Shared):Prop where
 | mk (L:Addr) (G':List bY) (h1:St W F G' (ρ.set i sl) s') (h2:eQ F'0 G ρ0 s'0 F G' (ρ.set i sl) s') (h3:(∀ a∈bk G' (ρ.set i sl),a∈as∨a∈bk G ρ)) (h4:(∃ e∈G,e.pl.addr=L)) (h5:∀ b o,b≠L→s.heap.get? b=some o→s'.heap.get? b=some o)
theorem Am (S:dc W sc env G) (h:cq sc x=true) (hi:bp i x) (st:St W F G ρ s) (y:b2 F'0 G ρ0 s'0 F ρ s) {t:T} (r:VR W F s.heap t v) :
  wpAny M A (assign (.Name x p) env v) (fun _ s'=>j4 W F'0 G ρ0 s'0 F ρ s i (.val t) [] s') E s:=by
 refine wpAny_assign_Name ?_
 obtain ⟨e,hf,_,go⟩:=jZ (M:=M) (A:=A) (E:=E) S h hi st (v:=v)
 refine go fun s' hg ho hk hoth hv=>?_
 have nF:¬ F e.pl.addr:=st.plF e (cp hf)
 obtain ⟨G',e1,e2,st',y'⟩:=st.store y.step (as:=e.own) (sl':=.val t) hf hk hoth ⟨v,hv,r.mono (fun _ f=>f) fun a o f=>hk a o fun z=>nF (z▸f)⟩ cK (fun a m=>nomatch m) (fun a m=>nomatch m) (fun a m=>nomatch m) (fun a m=>nomatch m) (fun a m=>nomatch m) (fun _ e=>nomatch e) hg ho
 exact ⟨e.pl.addr,G',st',y',e2,⟨e,cp hf,rfl⟩,hk⟩
theorem zo (S:dc W sc env G) (h:cq sc x=true) (hi:bp i x) (st0:St W F'0 G ρ0 s'0) (st:St W F G ρ s) (y:b2 F'0 G ρ0 s'0 F ρ s) {t:T} (r:gu W F s.heap as t v) (nd:as.Nodup) (hn:∀ a∈as,s'0.heap.get? a=none∧¬ F a) :
  wpAny M A (assign (.Name x p) env v) (fun _ s'=>j4 W F'0 G ρ0 s'0 F ρ s i (.own false t) as s') E s:=by
 refine wpAny_assign_Name ?_
 obtain ⟨e,hf,_,go⟩:=jZ (M:=M) (A:=A) (E:=E) S h hi st (v:=v)
 refine go fun s' hg ho hk hoth hv=>?_
 have nF:¬ F e.pl.addr:=st.plF e (cp hf)
 have ne:∀ a∈as,a∉bk G ρ∧∀ e∈G,e.pl.addr≠a:=fun a m=>mc st0 y (hn a m).1
 have h0:∀ a∈as,W.h0.get? a=none:=fun a m=>by
  induction q:W.h0.get? a with
  | none=>rfl
  | some o=>have:=st0.world a o q;rw [(hn a m).1] at this;exact nn this
 obtain ⟨G',e1,e2,st',y'⟩:=st.store y.step (as:=as) (sl':=.own false t) hf hk hoth ⟨v,hv,r.mono (fun _ f=>f) fun a o c=>hk a o fun z=>c.elim (fun f=>nF (z▸f)) fun m=>(ne a m).2 e (cp hf) z.symm⟩ nd (fun a m=>(hn a m).2) (fun a m=>(ne a m).2) (fun a m=>(ne a m).1) h0 (fun a m=>(hn a m).1) (fun _ e=>nomatch e) hg ho
 exact ⟨e.pl.addr,G',st',y',e2,⟨e,cp hf,rfl⟩,hk⟩
theorem j4.spost {sl:Slot} {Q:Fl→Env→Prop} (x:j4 W F'0 G ρ0 s'0 F ρ s i sl as s') (q:Q .next (ρ.set i sl)):jH W F'0 G ρ0 s'0 Q .next s':=
 let ⟨L,G',st,y,_,_,_⟩:=x;⟨.next,F,G',_,q,.next,st,y⟩
theorem j4.after {sl:Slot} {Q:Fl→Env→Prop} {Cc:Addr} (x:j4 W F'0 G ρ0 s'0 F ρ s i sl as s') (q:Q .next (ρ.set i sl)) (st0:St W F'0 G ρ0 s'0) (pv:iA W F G ρ [Cc]) (nC:s'0.heap.get? Cc=none) (ne:Cc∉as) (hn:s.heap.Ns Cc m) :
  ∃ m,s'.heap.Ns Cc m∧∀ h',Heap.SameBut Cc s'.heap h'→jH W F'0 G ρ0 s'0 Q .next { s' with heap:=h' }:=by
 obtain ⟨L,G',st,y,ow,⟨e,he,rfl⟩,hk⟩:=x
 obtain ⟨pF,pO,pP,p0⟩:=pv Cc (by simp)
 have hn':s'.heap.Ns Cc m:=by
  obtain ⟨o,es,ep,ho,r⟩:=hn
  exact ⟨o,es,ep,hk _ _ (fun z=>pP e he z.symm) ho,r⟩
 refine ⟨m,hn',fun h' hs=>?_⟩
 have hk':∀ b o,b∉[Cc]→s'.heap.get? b=some o→h'.get? b=some o:=fun b o hb e=>hs.extBut b o (fun z=>hb (by simp [z])) e
 have pv':iA W F G' (ρ.set i sl) [Cc]:=fun a ha=>by
  rw [aV.mp ha]
  refine ⟨pF,fun z=>(ow _ z).elim ne pO,fun e' he' z=>?_,p0⟩
  obtain ⟨e'2,h,_,hp⟩:=xv y.sh he'
  exact pP e'2 h (by rw [hp];exact z)
 exact ⟨.next,F,G',_,q,.next,st.touch (s':={ s' with heap:=h' }) pv' hk',y.touch (s':={ s' with heap:=h' }) (P:=[Cc]) (fun a ha=>by rw [aV.mp ha];exact nC) hk' rfl rfl⟩
theorem cR.val {D Cc:Addr} {t:T} {ρ':Env} {Q:Fl→Env→Prop} (z:cR W F G ρ s K D Cc t F' ρ' s') (st:St W F G ρ s) (S:dc W sc env G) (h:cq sc x=true) (hi:bp i x) (hn:s'.heap.Ns Cc m) (q:Q .next (ρ'.set i (.val t))) :
  wpAny M A (assign (.Name x p) env (.ref D)) (fun _ s''=>∃ m,s''.heap.Ns Cc m∧∀ h',Heap.SameBut Cc s''.heap h'→jH W F G ρ s Q .next { s'' with heap:=h' }) E s':=by
 obtain ⟨st',y'⟩:=st.adopt z.st z.step (as:=[D]) (fun a ha=>by rw [aV.mp ha];exact z.nD) fun a ha=>z.r.live ha
 refine ax (Am S h hi st' y' z.r.freeze) (fun _ s'' w=>w.after q st ?_ z.nC (by simp) hn) am
 intro a ha
 rw [aV.mp ha]
 obtain ⟨p1,p2,p3,p4⟩:=z.pv Cc (by simp)
 exact ⟨fun f=>f.elim p1 fun q=>z.ne (aV.mp q).symm,p2,p3,p4⟩
theorem cR.own {D Cc:Addr} {t:T} {ρ':Env} {Q:Fl→Env→Prop} (z:cR W F G ρ s K D Cc t F' ρ' s') (st:St W F G ρ s) (S:dc W sc env G) (h:cq sc x=true) (hi:bp i x) (hn:s'.heap.Ns Cc m) (q:Q .next (ρ'.set i (.own false t))) :
  wpAny M A (assign (.Name x p) env (.ref D)) (fun _ s''=>∃ m,s''.heap.Ns Cc m∧∀ h',Heap.SameBut Cc s''.heap h'→jH W F G ρ s Q .next { s'' with heap:=h' }) E s':=
 ax (zo S h hi st z.st z.step z.r (by simp) fun a ha=>by rw [aV.mp ha];exact ⟨z.nD,z.fD⟩) (fun _ s'' w=>w.after q st z.pv z.nC (fun m=>z.ne (aV.mp m).symm) hn) am
theorem gT {t v:Expr} {Q:Flow→Shared→Prop} (hb:swapsWithSole [t] v pos.line env=pure false) (hs:swappedStores [t] v env=pure none) (he:(assignEach [t] env).map (·.2)=[assign t env])
  (h:wpAny M A (eval v env) (fun x s₁=>wpAny M A (assign t env x) (fun _ s₂=>Q .next s₂) E s₁) E s):wpAny M A (exec (.Assign [t] v pos) env) Q E s:=by
 rw [arm_exec_Assign]
 refine ac (dI (ac (wpAny_of_eq hb ?_)))
 rw [av (by decide)]
 refine ac (ax h (fun x s₁ h'1=>?_) am)
 refine ac (wpAny_of_eq hs ?_)
 unfold assignStores
 rw [he]
 refine ac (ax ?_ (fun _ s₂ h'2=>al h'2) am)
 exact h'1
theorem ot {t v:Expr} {Q:Flow→Shared→Prop} (hb:swapsWithSole [t] v pos.line env=pure true) (he:(assignEach [t] env).map (·.2)=[assign t env])
  (h:wpAny M A (evalThenUse v env (assign t env)) (fun _ s₁=>Q .next s₁) E s):wpAny M A (exec (.Assign [t] v pos) env) Q E s:=by
 rw [arm_exec_Assign]
 refine ac (dI (ac (wpAny_of_eq hb ?_)))
 rw [au rfl]
 rw [he]
 refine ac (ax ?_ (fun _ s₂ h'2=>al h'2) am)
 exact h
end
section
variable {W:Wd} {C:aC} {n:Nat} {sc:PySem.Scope}
theorem wr (h1:∀ tgt iter ifs,gs=[⟨tgt,iter,ifs,0⟩]→P) (h2:(∀ tgt iter ifs,gs≠[⟨tgt,iter,ifs,0⟩])→P):P:=by
 by_cases h:∃ tgt iter ifs,gs=[⟨tgt,iter,ifs,0⟩]
 ·obtain ⟨a,b,c,e⟩:=h;exact h1 a b c e
 ·exact h2 fun a b c e=>h ⟨a,b,c,e⟩
theorem sA (h:∀ tgt iter ifs,gs≠[⟨tgt,iter,ifs,0⟩]):bA tb sc (.ListComp elt gs scope pos)=b6:=by
 match gs with
 | []=>rfl
 | [⟨tgt,iter,ifs,a⟩]=>
  exact av fun ha=>h tgt iter ifs (by rw [ha])
 | _::_::_=>rfl
theorem sD {k v:Expr} (h:∀ tgt iter ifs,gs≠[⟨tgt,iter,ifs,0⟩]):bA tb sc (.DictComp k v gs scope pos)=b6:=by
 match gs with
 | []=>rfl
 | [⟨tgt,iter,ifs,a⟩]=>
  exact av fun ha=>h tgt iter ifs (by rw [ha])
 | _::_::_=>rfl
theorem AX {ifs:List Expr}:bA tb sc (.ListComp elt [⟨tgt,iter,ifs,0⟩] scope pos)=z4 tb sc scope (eM tb scope tgt) (bf tb sc iter (bA tb sc iter)) (hB tb scope .And ifs) (bA tb scope elt):=
 au rfl
theorem AC {k v:Expr} {ifs:List Expr}:bA tb sc (.DictComp k v [⟨tgt,iter,ifs,0⟩] scope pos)=Av tb sc scope (eM tb scope tgt) (bf tb sc iter (bA tb sc iter)) (hB tb scope .And ifs) (bA tb scope k) (bA tb scope v):=
 au rfl
inductive Ap:Expr→Prop
 | l (elt:Expr) (gs:List Comprehension) (scope:PySem.Scope) (pos:Pos):Ap (.ListComp elt gs scope pos)
 | d (k v:Expr) (gs:List Comprehension) (scope:PySem.Scope) (pos:Pos):Ap (.DictComp k v gs scope pos)
 | s (elt:Expr) (gs:List Comprehension) (scope:PySem.Scope) (pos:Pos):Ap (.SetComp elt gs scope pos)
theorem K0 {e:Expr} (h:u6 e=true):Ap e:=by
 cases e with
 | ListComp _ _ _ _=>exact .l ..
 | DictComp _ _ _ _ _=>exact .d ..
 | SetComp _ _ _ _=>exact .s ..
 | _=>exact bt h
theorem wy {e:Expr} {sl:T→Slot} (hw:gW W) (hC:cz W C n) (hx:cq sc x=true) (hi:bp i x) (hc:u6 e=true) (hsl:(∀ t,sl t=.val t)∨∀ t,sl t=.own false t)
  {A:Around} {env:PySem.Env} {F:Addr→Prop} {G:List bY} {ρ:Env} {s:Shared} {Q:Fl→Env→Prop} {E:Value→Shared→Prop} (hA:sL n A) (S:dc W sc env G) (st:St W F G ρ s) (q:bA tb sc e C ρ fun t ρ=>dQ (ρ.get i)∧Q .next (ρ.set i (sl t))) :
  wpAny (model W.prog W.w) A (evalThenUse e env (assign (.Name x p) env)) (fun _ s'=>jH W F G ρ s Q .next s') E s:=by
 have fin:∀ D Cc t F' ρ' s' m,cR W F G ρ s (fun t ρ=>dQ (ρ.get i)∧Q .next (ρ.set i (sl t))) D Cc t F' ρ' s'→s'.heap.Ns Cc m→
   wpAny (model W.prog W.w) A (assign (.Name x p) env (.ref D)) (fun _ s''=>∃ m,s''.heap.Ns Cc m∧∀ h',Heap.SameBut Cc s''.heap h'→jH W F G ρ s Q .next { s'' with heap:=h' }) E s':=fun D Cc t F' ρ' s' m z hn=>by
  obtain ⟨_,q⟩:=z.q
  rcases hsl with h | h
  ·rw [h] at q;exact z.val st S hx hi hn q
  ·rw [h] at q;exact z.own st S hx hi hn q
 induction K0 hc with
 | l elt gs scope cpos=>
  refine wr (gs:=gs) (fun tgt iter ifs hg=>?_) fun hg=>?_
  ·subst hg
   rw [AX] at q
   unfold evalThenUse
   refine ac (tR hA S st (rA hw hC iter sc) (fun c _=>Ob hw hC c scope) (rA hw hC elt scope) q (fun e=>nomatch e) fun u hu=>?_)
   obtain rfl:=az hu
   intro D Cc t F' ρ' s' m z hn
   exact ax (fin D Cc t F' ρ' s' m z hn) (fun _ s'' ⟨m,a,b⟩=>⟨m,a,fun h' hs=>al (b h' hs)⟩) am
  ·rw [sA hg] at q;exact q.elim
 | d k v gs scope cpos=>
  refine wr (gs:=gs) (fun tgt iter ifs hg=>?_) fun hg=>?_
  ·subst hg
   rw [AC] at q
   unfold evalThenUse
   refine ac (ub hw hA S st (rA hw hC iter sc) (fun c _=>Ob hw hC c scope) (rA hw hC k scope) (rA hw hC v scope) q (fun e=>nomatch e) fun u hu=>?_)
   obtain rfl:=az hu
   intro D Cc t F' ρ' s' m z hn
   exact ax (fin D Cc t F' ρ' s' m z hn) (fun _ s'' ⟨m,a,b⟩=>⟨m,a,fun h' hs=>al (b h' hs)⟩) am
  ·rw [sD hg] at q;exact q.elim
 | s elt gs scope cpos=>
  exact (show False from q).elim
theorem yN {e:Expr} (hw:gW W) (hC:cz W C n) (hx:cq sc x=true) (hi:bp i x):mS W C n sc (exec (.Assign [.Name x p] e pos)) (ay i (bA tb sc e)):=by
 intro A env F G ρ s Q E hA S st q
 obtain ⟨b,hb,hb'⟩:=FL (v:=e) (t:=.Name x p) (line:=pos.line) (env:=env)
 induction b with
 | false=>
  refine gT hb (eN (fun _ _ _ e=>nomatch e) fun _ _ e=>nomatch e) rfl (ax (rA hw hC e sc A env F G ρ s _ E hA S st q) (fun v s₁ h'1=>?_) am)
  obtain ⟨t,F'1,ρ1,⟨_,q⟩,st1,y'1,r⟩:=h'1
  exact ax (Am S hx hi st1 y'1 r) (fun _ s₂ z=>z.spost q) am
 | true=>exact ot hb rfl (wy (sl:=fun t=>.val t) hw hC hx hi (hb' rfl).2 (.inl fun _=>rfl) hA S st q)
theorem IK {e:Expr} (hw:gW W) (hC:cz W C n) (hx:cq sc x=true) (hi:bp i x) (hO:sq W C n sc (eval e) (bA tb sc e)):mS W C n sc (exec (.Assign [.Name x p] e pos)) (ii i (bA tb sc e)):=by
 intro A env F G ρ s Q E hA S st q
 obtain ⟨b,hb,hb'⟩:=FL (v:=e) (t:=.Name x p) (line:=pos.line) (env:=env)
 induction b with
 | false=>
  refine gT hb (eN (fun _ _ _ e=>nomatch e) fun _ _ e=>nomatch e) rfl (ax (hO A env F G ρ s _ E hA S st q) (fun v s₁ h'1=>?_) am)
  obtain ⟨t,F'1,ρ1,as,⟨_,q⟩,st1,y'1,r,nd,hn⟩:=h'1
  exact ax (zo S hx hi st st1 y'1 r nd hn) (fun _ s₂ z=>z.spost q) am
 | true=>exact ot hb rfl (wy (sl:=fun t=>.own false t) hw hC hx hi (hb' rfl).2 (.inr fun _=>rfl) hA S st q)
theorem yh {t v:Expr} {line:Nat} (h:∀ x p,t≠.Name x p):swapsWithSole [t] v line env=pure false:=by
 obtain ⟨b,hb,hb'⟩:=FL (v:=v) (t:=t) (line:=line) (env:=env)
 induction b with
 | false=>exact hb
 | true=>obtain ⟨⟨x,p,e⟩,_⟩:=hb' rfl;exact absurd e (h x p)
theorem yg {v:Expr} {d:SE} (hv:mO v=false) (he:cX W C n sc (eval v) d) (hes:iS tb sc es=some is):mS W C n sc (exec (.Assign [.Tuple es k p] v pos)) (vH is d):=by
 intro A env F G ρ s Q E hA S st q
 refine gT (yh fun _ _ e=>nomatch e) (eN (fun _ _ _ _=>hv) fun _ _ e=>nomatch e) rfl (ax (he A env F G ρ s _ E hA S st q) (fun v s₁ h'1=>?_) am)
 obtain ⟨t,F'1,ρ1,q,st1,y'1,r⟩:=h'1
 refine ax (uH (H:=[]) (g:=.many is) hA.handled S (fun _ _ _ _ _ _ _ m=>nomatch m) (fun _ m=>nomatch m) (by show (iS tb sc es).map mV.many=_;rw [hes];rfl) st1 r q) (fun _ s₂ z=>?_) am
 obtain ⟨ρ2,q,st2,y'2⟩:=z
 exact ⟨.next,F'1,G,ρ2,q,.next,st2,y'1.step.trans y'2.step⟩
end
end
section
section
variable {W:Wd} {F:Addr→Prop} {h:Heap}
theorem j3.put {a:Nat} (ha:bp a x) {t:T} (r:VR W F h t v) {hh:Int} {tk:Tok}:∀ {es:List DictEntry},j3 W F h fs es→
  j3 W F h (AB fs a t) (match es.findIdx? (·.key.isStr x) with | some i=>es.modify i fun e=>{ e with val:=v } | none=>es++[⟨hh,.str x tk,v⟩]):=by
 induction fs with
 | nil=>intro es q;rw [q.inv0];exact .cons ha rfl r .nil
 | cons p fs ih=>
  intro es q
  obtain ⟨y,u,e,es,hn,hk,qv,rs⟩:=j3.inv (i:=p.1) (t:=p.2) q
  have ih:=ih rs
  rw [List.findIdx?_cons,hk,DH ha hn]
  show j3 W F h (if p.1=a then (p.1,t)::fs else p::AB fs a t) _
  by_cases z:p.1=a
  ·rw [au z,bm.mpr z]
   exact .cons hn hk r rs
  ·rw [av z,eG.mpr z]
   induction hf:es.findIdx? (·.key.isStr x) with
   | none=>rw [hf] at ih;exact .cons hn hk qv ih
   | some k=>rw [hf] at ih;exact .cons hn hk qv ih
theorem xM {es:List DictEntry} {hh:Int} {tk:Tok}:∃ ep',Obj.putName x hh (.str x tk) v (aL es ep)=aL (match es.findIdx? (·.key.isStr x) with | some i=>es.modify i fun e=>{ e with val:=v } | none=>es++[⟨hh,.str x tk,v⟩]) ep':=by
 rw [Obj.putName_eq]
 unfold Obj.putNameByArray
 dsimp only
 rw [List.findIdx?_toArray]
 induction es.findIdx? (·.key.isStr x) with
 | none=>exact ⟨ep+1,by simp⟩
 | some i=>exact ⟨ep,by simp⟩
end
section
variable {W:Wd} {F:Addr→Prop} {s:Shared} {A:Around} {E:Value→Shared→Prop} {as:List Addr}
theorem j3.len_put {a:Nat} {t:T}:(AB fs a t).length≤fs.length+1:=by
 induction fs with
 | nil=>exact Nat.le_refl _
 | cons p fs ih=>
  unfold AB
  split
  ·simp
  ·simp only [eF];lia
set_option tactic.hygienic true in
theorem yO (hw:gW W) (hk:∀ b o,W.h0.get? b=some o→s.heap.get? b=some o) {o t tv:T} {vo vv:Value} {a:Nat} (ha:bp a x) (hF:∀ b∈as,¬ F b) (r:gu W F s.heap as o vo) (rv:VR W F s.heap tv vv) (e:zN o a tv=some t) :
  wpAny (model W.prog W.w) A (setAttr vo x vv) (fun _ s'=>gi W F as s t vo s') E s:=by
 refine dw e fun p hp e=>ifs e fun hc e=>?_
 have r:=qa hp▸r
 rw [e]
 obtain ⟨c,fs⟩:=p
 cases r with | inst has g g' l rr=>
  rename_i es ad dx ep
  have hc:=cB.mp hc
  have hl:=bH hc.2
  have hf:=fH.mp hc.1
  have K:=hw.cls c (ua hc.1)
  have X:=hw.K.keeps hk
  have I:=uS g g'
  refine set_plain X I K.sa ?_
  refine osa_open (s:={ s with toks:=s.toks+1 }) X I K.po (r:=none) (by unfold takerIn;rw [K.fld a x hf ha];rfl) fun b=>?_
  obtain ⟨cd,hcd,hd⟩:=K.cd
  have L0:=I.at_
  refine ac (al (ac (ac (wpAny_loadPart g (ac (Looks.here (s:={ s with toks:=s.toks+1 }) (looks_clsIn X hcd) ?_))))))
  rw [hd]
  refine al (a:=some dx) (ac (al (ac ?_)))
  unfold nsSet
  refine ac (ac (wpAny_askSetting (al (ac (wpAny_mkText (ac (wpAny_loadPart g' ?_)))))))
  dsimp only
  have c0:(!es.any (·.key.isStr x)&&es.any (·.refKey))=false:=by rw [rr.noRef,Bool.and_false]
  rw [aRefKeyMayBeTheName_at,show (!es.toArray.any (·.key.isStr x)&&es.toArray.any (·.refKey))=false by rw [← Array.any_toList,← Array.any_toList];exact c0]
  refine wpAny_updatePart g' ?_
  have hlen:=j3.len_put (fs:=fs) (a:=a) (t:=tv)
  have hne:ad≠dx:=fun z=>by
   subst z
   rw [g] at g';cases g'
  obtain ⟨ep',hput⟩:=xM (es:=es) (ep:=ep) (x:=x) (hh:=PyData.keyHash W.w.params x) (tk:=s.toks+1) (v:=vv)
  have gn:=Heap.get?_update_self (Obj.putName x (PyData.keyHash W.w.params x) (.str x (s.toks+1)) vv) g' (by rw [hput];rfl)
  have rr':=rr.put ha rv (hh:=PyData.keyHash W.w.params x) (tk:=s.toks+1)
  have hle:=rr'.length
  refine ac (wpAny_lookBehind gn (by rw [hput];exact pastItsLine_dict (by rw [cO,sizeLine_eq,← hle];lia)) ?_)
  refine al ?_
  have sb:Heap.SameBut dx s.heap (s.heap.update dx (Obj.putName x (PyData.keyHash W.w.params x) (.str x (s.toks+1)) vv)):=fZ _ _ _
  have kp:∀ b o,b≠dx→s.heap.get? b=some o→(s.heap.update dx (Obj.putName x (PyData.keyHash W.w.params x) (.str x (s.toks+1)) vv)).get? b=some o:=fun b o hb e=>sb.extBut b o hb e
  subst has
  refine ⟨.inst rfl (kp _ _ hne g) (by rw [← hput];exact gn) (by lia) (rr'.mono (fun _ f=>f) fun b o f e=>kp b o (fun z=>hF b (by rw [z];simp) f) e),fun b o hb e=>kp b o (fun z=>hb (by rw [z];simp)) e,rfl,rfl⟩
end
end
section
section
variable {W:Wd} {C:aC} {n:Nat} {sc:PySem.Scope}
theorem ji (st:St W F G ρ s) {e:bY} (hf:first G j=some e) {fx:Bool} {t:T} (h:ρ.get j=.own fx t):∀ a∈e.own,¬ F a:=
 fun a m=>st.ownF a ((FJ st hf h).2 a m)
theorem gi.spost {F'0:Addr→Prop} {G'0:List bY} {ρ0:Env} {s'0:Shared} {Q:Fl→Env→Prop} {e:bY} {fx:Bool} {t t':T} (st:St W F G ρ s) (y:eQ F'0 G'0 ρ0 s'0 F G ρ s) (hf:first G j=some e) (h:ρ.get j=.own fx t)
  (hv:e.pl.Holds s.heap (some v)) (z:gi W F e.own s t' v s') (q:Q .next (ρ.set j (.own fx t'))):jH W F'0 G'0 ρ0 s'0 Q .next s':=by
 obtain ⟨h1,h2,h3,h4⟩:=z
 obtain ⟨st',y'⟩:=st.mutate hf h hv h1 h2 h3 h4
 exact ⟨.next,F,G,_,q,.next,st',y.trans y'.step⟩
theorem v7 {i v:Expr} {di dv:SE} (ho:cU sc x=true) (hj:bp j x) (hi:cX W C n sc (eval i) di) (hv:cX W C n sc (eval v) dv) :
  mS W C n sc (exec (.Assign [.Subscript (.Name x px) i p] v pos)) (bF j di dv):=by
 intro A env F G ρ s Q E hA S st q
 refine gT (yh fun _ _ e=>nomatch e) (eN (fun _ _ _ e=>nomatch e) fun _ _ e=>nomatch e) rfl (ax (hv A env F G ρ s _ E hA S st q) (fun vv s₁ h'1=>?_) am)
 obtain ⟨tv,F'1,ρ1,⟨hb,q⟩,st1,y'1,rv⟩:=h'1
 obtain ⟨en,hf,ld⟩:=S.loads ho hj
 obtain ⟨v,hv1⟩:=st1.bound hf hb
 rw [arm_assign_Subscript]
 refine ac (b5 (ld hv1 (ac (b5 (ax (hi A env F'1 G ρ1 s₁ _ E hA S st1 q) (fun vi s₂ h'2=>?_) am)))))
 obtain ⟨ti,F'2,ρ2,q,st2,y'2,ri⟩:=h'2
 have lk:=st2.look hf
 induction hsl:ρ2.get j with
 | unb=>rw [hsl] at q;exact q.elim
 | val t=>rw [hsl] at q;exact q.elim
 | own fx to=>
  rw [hsl] at q lk
  obtain ⟨to',he,q⟩:=aW q
  obtain ⟨v',hv2,r⟩:=lk
  have hvv:v=v':=az ((hv1.keep fun o=>y'2.pl en (cp hf) o).inj hv2)
  subst hvv
  refine ac (dI (ac (b5 (ax (zh (by have:=hA.u;lia) (ji st2 hf hsl) r ri (y'2.step.vr st1 rv) he) (fun _ s'3 z=>?_) am))))
  exact lA (z.spost st2 (y'1.trans y'2).step hf hsl hv2 q)
theorem xd (hw:gW W) {a:Str} {v:Expr} {dv:SE} (ho:cU sc x=true) (hj:bp j x) (hk:bp k a) (hv:cX W C n sc (eval v) dv) :
  mS W C n sc (exec (.Assign [.Attribute (.Name x px) a p] v pos)) (aF j k dv):=by
 intro A env F G ρ s Q E hA S st q
 refine gT (yh fun _ _ e=>nomatch e) (eN (fun _ _ _ e=>nomatch e) fun _ _ e=>nomatch e) rfl (ax (hv A env F G ρ s _ E hA S st q) (fun vv s₁ h'1=>?_) am)
 obtain ⟨tv,F'1,ρ1,q,st1,y'1,rv⟩:=h'1
 obtain ⟨en,hf,ld⟩:=S.loads ho hj
 have lk:=st1.look hf
 induction hsl:ρ1.get j with
 | unb=>rw [hsl] at q;exact q.elim
 | val t=>rw [hsl] at q;exact q.elim
 | own fx to=>
  rw [hsl] at q lk
  obtain ⟨to',he,q⟩:=aW q
  obtain ⟨v',hv2,r⟩:=lk
  rw [arm_assign_Attribute]
  refine ac (b5 (ld hv2 (ac (dI (ac (b5 (ax (yO hw st1.world hk (ji st1 hf hsl) r rv he) (fun _ s'3 z=>?_) am)))))))
  exact lA (z.spost st1 y'1.step hf hsl hv2 q)
theorem fU (S:dc W sc env G):interactive env=false:=by
 unfold interactive
 rw [S.kind];rfl
theorem hW {f:Expr} {Q:Flow→Shared→Prop} (hn:interactive env=false)
  (h:wpAny M A (eval (.Call f args ks p) env) (fun v s₁=>v=.none∧Q .next s₁) E s):wpAny M A (exec (.Expr (.Call f args ks p) pos) env) Q E s:=by
 rw [arm_exec_Expr]
 refine ac (dI ?_)
 rw [hn,av (by decide)]
 show wpAny _ _ (pure false >>= _) _ _ _
 refine ac (al ?_)
 rw [av (by decide)]
 refine ac (ax h (fun v s₁ h'1=>?_) am)
 obtain ⟨rfl,q⟩:=h'1
 exact al q
theorem tE {xs:List T} {pl:Sem Bool} {Q:Value×List Value→Shared→Prop} (x:dY W F s.heap (.list xs) v) :
  (Q (.builtin "list.append",[v]) s→wpAny (model W.prog W.w) A (getMethod v "append" pl) Q E s)∧(Q (.builtin "list.extend",[v]) s→wpAny (model W.prog W.w) A (getMethod v "extend" pl) Q E s):=by
 obtain ⟨es,a,ep,rfl,g,_⟩:=x.list_inv
 exact ⟨fun q=>getMethod_builtin ⟨_,g,rfl⟩ PySem.F.plainAttrs_list PySem.F.slot_list_append PySem.F.type_list_append (fun b e=>by cases e;exact ⟨_,g,rfl⟩) q,
  fun q=>getMethod_builtin ⟨_,g,rfl⟩ PySem.F.plainAttrs_list PySem.F.slot_list_extend PySem.F.type_list_extend (fun b e=>by cases e;exact ⟨_,g,rfl⟩) q⟩
theorem xu {sl:Slot} (h:Ms sl):∃ fx xs,sl=.own fx (.list xs):=by
 induction sl with
 | own fx t=>cases t<;>first | exact ⟨_,_,rfl⟩ | exact h.elim
 | _=>exact h.elim
theorem Ew {h:Heap} {t:T} (r:gu W F h as t v):∃ a,v=.ref a:=by induction r<;>exact ⟨_,rfl⟩
theorem yb {e:Expr} {d:SE} (ho:cU sc x=true) (hj:bp j x) (hn:gX [e]=true) (hp:(ap.endLine==p.line)=true) (he:cX W C n sc (eval e) d) :
  mS W C n sc (exec (.Expr (.Call (.Attribute (.Name x px) "append" ap) [e] [] p) pos)) (kr j d):=by
 intro A env F G ρ s Q E hA S st q
 obtain ⟨hls,q⟩:=q
 obtain ⟨en,hf,ld⟩:=S.loads ho hj
 obtain ⟨fx,xs,hsl⟩:=xu hls
 have lk:=st.look hf
 rw [hsl] at lk
 obtain ⟨v,hv,r⟩:=lk
 refine hW (fU S) (im rfl hn hp (ld hv fun pl=>(tE r.q).1 ?_))
 have hs:cY e=true:=by have:=bu hn;simpa using this
 rw [dz hs]
 refine BF (as:=en.own) (W:=W) (ax (he A env F G ρ s _ E hA S st q) (fun vv s₁ h'1=>?_) am) (Ew r)
 obtain ⟨tv,F'1,ρ1,q,st1,y'1,rv⟩:=h'1
 have lk:=st1.look hf
 induction hsl1:ρ1.get j with
 | unb=>rw [hsl1] at q;exact (show False from q).elim
 | val t=>rw [hsl1] at q;exact (show False from q).elim
 | own fx to=>
  rw [hsl1] at q lk
  obtain ⟨to',he',q⟩:=aW (show fW (GW to tv) _ from q)
  obtain ⟨v',hv2,r'⟩:=lk
  have hvv:v=v':=az ((hv.keep fun o=>y'1.pl en (cp hf) o).inj hv2)
  subst hvv
  exact ⟨F'1,to,tv,to',ji st1 hf hsl1,r',rv,he',fun s' z=>⟨rfl,z.spost st1 y'1.step hf hsl1 hv2 q⟩⟩
theorem zl {e:Expr} {d:SE} (ho:cU sc x=true) (hj:bp j x) (hn:gX [e]=true) (hp:(ap.endLine==p.line)=true) (he:cX W C n sc (eval e) d) :
  mS W C n sc (exec (.Expr (.Call (.Attribute (.Name x px) "extend" ap) [e] [] p) pos)) (ml j d):=by
 intro A env F G ρ s Q E hA S st q
 obtain ⟨hls,q⟩:=q
 obtain ⟨en,hf,ld⟩:=S.loads ho hj
 obtain ⟨fx,xs,hsl⟩:=xu hls
 have lk:=st.look hf
 rw [hsl] at lk
 obtain ⟨v,hv,r⟩:=lk
 refine hW (fU S) (im rfl hn hp (ld hv fun pl=>(tE r.q).2 ?_))
 have hs:cY e=true:=by have:=bu hn;simpa using this
 rw [dz hs]
 refine B9 (as:=en.own) (W:=W) (ax (he A env F G ρ s _ E hA S st q) (fun vv s₁ h'1=>?_) am) (Ew r)
 obtain ⟨tv,F'1,ρ1,q,st1,y'1,rv⟩:=h'1
 have lk:=st1.look hf
 induction hsl1:ρ1.get j with
 | unb=>rw [hsl1] at q;exact (show False from q).elim
 | val t=>rw [hsl1] at q;exact (show False from q).elim
 | own fx to=>
  rw [hsl1] at q lk
  obtain ⟨to',he',q⟩:=aW (show fW (AQ to tv) _ from q)
  obtain ⟨v',hv2,r'⟩:=lk
  have hvv:v=v':=az ((hv.keep fun o=>y'1.pl en (cp hf) o).inj hv2)
  subst hvv
  exact ⟨F'1,to,tv,to',ji st1 hf hsl1,r',rv,he',fun s' z=>⟨rfl,z.spost st1 y'1.step hf hsl1 hv2 q⟩⟩
theorem Ez {f:Expr} {d:SE} (he:cX W C n sc (eval (.Call f args ks p)) d):mS W C n sc (exec (.Expr (.Call f args ks p) pos)) (Dy d):=by
 intro A env F G ρ s Q E hA S st q
 refine hW (fU S) (ax (he A env F G ρ s _ E hA S st q) (fun v s₁ h'1=>?_) am)
 obtain ⟨t,F'1,ρ1,q,st1,y'1,r⟩:=h'1
 cases t<;>try (exact (show False from q).elim)
 exact ⟨r.q.none_inv,.next,F'1,G,ρ1,q,.next,st1,y'1.step⟩
end
end
section
inductive D9 (W:Wd) (F:Addr→Prop) (s:Shared) (Q:T→Option T→Prop) (v:Value) (s':Shared):Prop where
 | mk (t:T) (r':Option T) (F':Addr→Prop) (bs:List Addr) (h1:Q t r') (h2:zw F [] s F' s') (h3:gu W F' s'.heap bs t v) (h4:bs.Nodup) (h5:∀ a∈bs,s.heap.get? a=none∧¬ F' a)
noncomputable def j6 (f:Nat):Bool:=match f0 f with | some d=>d.fresh | none=>false
noncomputable def lC (W:Wd) (C:aC) (n:Nat):Prop:=∀ f ts Q A F s vs E,ON n A→f < 79→j6 f=true→(∀ b o,W.h0.get? b=some o→s.heap.get? b=some o)→(∀ a,W.F0 a→F a)→(∀ a,F a→∃ o,s.heap.get? a=some o)→
 bR W F s.heap ts vs→C f ts none Q→codeAny (model W.prog W.w) A (.call (.ref (W.fa f)) ⟨vs,[]⟩) (C9 E (D9 W F s Q)) s
section
variable {W:Wd} {C:aC} {n:Nat} {sc:PySem.Scope}
theorem C1 (h:tb.fresh x=true):∃ i,tb.fn x=some (i,none)∧j6 i=true∧tb.cls x=none:=by
 have h:decide (x=("lone_pairs":Str))=true:=h
 have h:=bH h
 subst h
 have:∀ o:Option (Nat×Option Nat),(match o with | some (i,none)=>j6 i | _=>false)=true→∃ i,o=some (i,none)∧j6 i=true:=fun o h=>by
  match o,h with
  | some (i,none),h=>exact ⟨i,rfl,h⟩
 obtain ⟨i,h1,h2⟩:=this (tb.fn ("lone_pairs":Str)) (by decide +kernel)
 exact ⟨i,h1,h2,by decide +kernel⟩
theorem Bc (hw:gW W) (hF:lC W C n) (hg:cw sc x=true) (hd:(x==("__debug__":Str))=false) (hn:gX args=true) (hi:tb.fn x=some (i,none)) (hfr:j6 i=true) (ha:xS W C n sc args ds) :
  sq W C n sc (eval (.Call (.Name x p) args [] pos)) (aK i ds none):=by
 intro A env F G ρ s Q E hA S st q
 obtain ⟨_,q⟩:=q
 refine Call_Name rfl (S.gets hg hd hw st.world (.inl (hw.fn x i none hi)) ?_)
 refine pT hw (tB hi) (bu hn) (ax (ha pos A env F G ρ s _ E hA S st q) (fun vs s₁ h'1=>?_) am) pos
 obtain ⟨ts,F'1,ρ1,hl,q,st1,y'1,r⟩:=h'1
 refine ⟨st1.world,wpAny_call (codeAny_mono (hF i ts _ A F'1 s₁ vs E hA.c (tB hi) hfr st1.world st1.base st1.live r q) fun rs s₂ z=>?_)⟩
 cases rs with
 | error e=>exact z
 | ok f=>
  cases f with
  | ret v=>
   obtain ⟨t,r',F',bs,q,af,rv,nd,hb⟩:=z
   obtain ⟨st2,y'2⟩:=st1.grow af.grow
   exact ⟨t,F',ρ1,bs,q,st2,y'1.trans y'2,rv,nd,fun a ha=>⟨y'1.step.lives a (hb a ha).1,(hb a ha).2⟩⟩
  | _=>exact z.elim
theorem Fv {o:Option SE} {t:PySem.Env→Sem Value} (h:∀ d,o=some d→sq W C n sc t d):sq W C n sc t (Jr o):=by
 cases o with
 | none=>exact dX
 | some d=>exact h d rfl
theorem Ae:Bx ("dict":Str)=some .dict:=by
 unfold Bx
 rw [av (by decide),av (by decide),av (by decide),av (by decide),au rfl]
theorem CY (hw:gW W) (hC:cz W C n) (hF:lC W C n) (h:(decide (x=("dict":Str))||tb.fresh x)=true) (sc:PySem.Scope):sq W C n sc (eval (.Call (.Name x px) args ks pos)) (bA tb sc (.Call (.Name x px) args ks pos)):=by
 cases ks with
 | cons k ks=>exact dX
 | nil=>
  rw [mH]
  refine Fv fun d hd=>sr hd fun hc hd=>?_
  obtain ⟨hg,hf,hdb⟩:=tV hc
  unfold EZ at hd
  rcases Bool.or_eq_true_iff.mp h with h | h
  ·have h:=bH h
   subst h
   rw [show tb.cls ("dict":Str)=none by decide +kernel,show tb.fn ("dict":Str)=none by decide +kernel] at hd
   refine kz hd (fun z _=>absurd z (by decide)) fun hd=>dw hd fun b hb hd=>eT hd fun o ho z=>?_
   obtain rfl:=az (Ae.symm.trans hb)
   cases args with
   | nil=>exact nn ho
   | cons a r=>
    cases r with
    | cons=>exact nn ho
    | nil=>
     obtain rfl:=az ho
     exact z▸yo hw hg hdb (cB.mp (bu hf)).1 Ae (m7 (rA hw hC a sc))
  ·obtain ⟨i,h1,h2,h3⟩:=C1 h
   rw [h3,h1] at hd
   exact az hd▸Bc hw hF hg hdb hf h1 h2 (ki (bu hf) fun e _=>rA hw hC e sc)
theorem Qi (hw:gW W) (hC:cz W C n) (hF:lC W C n) {e:Expr} (h:IZ tb e=true) (sc:PySem.Scope):sq W C n sc (eval e) (bA tb sc e):=by
 refine cps fun GG kk=>?_
 cases e with
 | List es pos=>exact kk (rO (fun e _=>rA hw hC e) sc)
 | Dict ks vs pos=>exact kk (xN hw (fun e _=>rA hw hC e) (fun e _=>rA hw hC e) sc)
 | ListComp elt gs scope pos=>exact kk (tD (rA hw hC elt) (fun g _=>⟨rA hw hC g.iter,fun c _=>Ob hw hC c⟩) sc)
 | Call f args ks pos=>
  cases f with
  | Name x px=>exact kk (CY hw hC hF h sc)
  | _=>exact bt h
 | _=>exact bt h
theorem CI {ow:List Str}:ix tb sc ow []=aj:=rfl
theorem yU {ow:List Str} {s:Stmt} {r:List Stmt}:ix tb sc ow (s::r)=ai (LP tb sc ow s) (ix tb sc ow r):=rfl
theorem my {o:Option SS} {t:PySem.Env→Sem Flow} (h:∀ d,o=some d→mS W C n sc t d):mS W C n sc t (NU o):=by
 cases o with
 | none=>exact pN
 | some d=>exact h d rfl
theorem HD (hw:gW W) (hC:cz W C n) {o:Expr} {m:Str} {d:SS} (h:wg tb sc o m ap p args (fc tb sc args)=some d):mS W C n sc (exec (.Expr (.Call (.Attribute o m ap) args [] p) pos)) d:=by
 refine sr h fun hc h=>dw h fun s hs h=>dw h fun i hi h9=>ka hi fun x px hx ho hj=>?_
 rw [hx]
 have hc:=cB.mp hc
 cases args with
 | nil=>exact nn hs
 | cons a r=>
  cases r with
  | cons=>exact nn hs
  | nil=>
   obtain rfl:=az hs
   exact kz h9 (fun hm z=>by subst hm;exact az z▸yb ho (dg hj) hc.1 hc.2 (rA hw hC a sc)) fun h=>ifs h fun hm z=>by subst hm;exact z▸zl ho (dg hj) hc.1 hc.2 (rA hw hC a sc)
noncomputable def M7 (W:Wd) (C:aC) (n:Nat) (s:Stmt):Prop:=∀ sc ow,mS W C n sc (exec s) (LP tb sc ow s)
theorem DO {xs:List Stmt} (H:∀ s∈xs,M7 W C n s) (sc:PySem.Scope) (ow:List Str):mS W C n sc (execs xs) (ix tb sc ow xs):=by
 induction xs with
 | nil=>rw [CI];exact It
 | cons x xs ih=>rw [yU];exact FS (H x (.head _) sc ow) (ih fun s m=>H s (.tail _ m))
theorem yk (hw:gW W) (hC:cz W C n) (hF:lC W C n) {ts:List Expr} {v:Expr}:M7 W C n (.Assign ts v pos):=by
 intro sc ow
 refine my fun d h0=>dw h0 fun t ht h=>?_
 clear h0
 obtain rfl:=zF ht
 unfold Nt at h
 cases q1:oW t with
 | some x=>
  rw [q1] at h
  refine sr h fun hx h=>dw h fun i hi h=>lR q1 fun p e=>e▸?_
  exact kz h (fun _ h=>ifs h fun hn z=>z▸IK hw hC hx (dg hi) (Qi hw hC hF hn sc)) fun z=>az z▸yN hw hC hx (dg hi)
 | none=>
  rw [q1] at h
  cases q2:Gb t with
  | some es=>
   rw [q2] at h
   refine Fq q2 fun a p e=>e▸?_
   by_cases hv:mO v=true
   ·exact nn ((au hv).symm.trans h)
   ·exact eT ((av hv).symm.trans h) fun xs hxs z=>z▸yg (Bool.eq_false_iff.mpr hv) (rA hw hC v sc) hxs
  | none=>
   rw [q2] at h
   cases q3:Md t with
   | some p=>
    rw [q3] at h
    exact eT h fun j hj z=>ka hj fun x px hx ho hi=>JQ q3 fun pp e=>by
     rw [e,hx,z];exact v7 ho (dg hi) (rA hw hC p.2 sc) (rA hw hC v sc)
   | none=>
    rw [q3] at h
    exact dw h fun a ha h=>dw h fun j hj h=>eT h fun k hk z=>ka hj fun x px hx ho hi=>by
     rw [zy ha,hx,z];exact xd hw ho (dg hi) (dg hk) (rA hw hC v sc)
theorem Ej (hw:gW W) (hC:cz W C n) {v:Expr}:M7 W C n (.Expr v pos):=by
 intro sc ow
 refine my fun d h=>dw h fun c hc h=>sr h fun hk h=>?_
 rw [Ad hc,List.isEmpty_iff.mp hk]
 cases q1:zL c.1 with
 | some a=>rw [q1] at h;rw [zy q1];exact HD hw hC h
 | none=>
  rw [q1] at h
  exact eT h fun x hx z=>by rw [z,Ad hc,List.isEmpty_iff.mp hk];exact Ez (rA hw hC _ sc)
theorem Gy (hw:gW W) (hC:cz W C n) (hF:lC W C n) (s:Stmt):M7 W C n s:=by
 apply Stmt.rec (motive_1:=fun _=>True) (motive_2:=M7 W C n) (motive_3:=fun _=>True) (motive_4:=fun _=>True) (motive_5:=fun _=>True) (motive_6:=fun _=>True) (motive_7:=fun _=>True) (motive_8:=fun _=>True) (motive_9:=fun _=>True) (motive_10:=fun _=>True) (motive_11:=fun _=>True)
  (motive_12:=fun _=>True) (motive_13:=fun _=>True) (motive_14:=fun _=>True) (motive_15:=fun _=>True)
  (motive_16:=fun _=>True) (motive_17:=fun xs=>∀ x∈xs,M7 W C n x) (motive_18:=fun _=>True) (motive_19:=fun _=>True) (motive_20:=fun _=>True) (motive_21:=fun _=>True) (motive_22:=fun _=>True) (motive_23:=fun _=>True) (motive_24:=fun _=>True) (motive_25:=fun _=>True) (t:=s)
 case Return=>exact fun v pos _ sc ow=>my fun d h=>eT h fun e he z=>by rw [he,z];exact Hq (rA hw hC e sc)
 case Assign=>exact fun ts v pos _ _=>yk hw hC hF
 case For=>
  intro t i b o pos _ _ hb _ sc ow
  cases o with
  | cons o os=>exact pN
  | nil=>exact my fun d h=>eT h fun g hg z=>z▸HQ (rA hw hC i sc) hg (DO hb sc ow)
 case While=>
  intro t b o pos _ hb _ sc ow
  cases o with
  | cons o os=>exact pN
  | nil=>exact BI (Ob hw hC t sc) (DO hb sc ow)
 case If=>exact fun t b o pos _ hb ho sc ow=>KM (Ob hw hC t sc) (DO hb sc ow) (DO ho sc ow)
 case Expr=>exact fun v pos _=>Ej hw hC
 case Pass=>exact fun pos sc ow=>En
 case Continue=>exact fun pos sc ow=>Dx
 all_goals first
  | (intros;trivial)
  | exact fun _ _ h1 h2 x m=>(aU.mp m).elim (fun e=>e▸h1) (h2 x)
  | (intros;exact fun sc ow=>pN)
theorem H4 (hw:gW W) (hC:cz W C n) (hF:lC W C n) (xs:List Stmt) (sc:PySem.Scope) (ow:List Str):mS W C n sc (execs xs) (ix tb sc ow xs):=DO (fun s _=>Gy hw hC hF s) sc ow
end
end
section
structure FA (f:Nat) (p:Arguments) (b:List Stmt) (sc:PySem.Scope) (ow:List Str) (d:aG) (xs ys:List Str):Prop where
 pl:I0 p xs
 px:dM tb xs=some d.params
 py:dM tb ys=some d.locals
 nd:(xs++ys).Nodup
 body:ix tb sc ow b=d.body
 kind:sc.kind=.function
 co:sc.isCoroutine=false
 gen:sc.isGenerator=false
 nms:∀ x∈xs++ys,sc.names.lookup x=some .local∨sc.names.lookup x=some .cell
 all:∀ x k,sc.names.lookup x=some k→(k=.local∨k=.cell)→x∈xs++ys
 nofree:∀ x,sc.names.lookup x≠some .free
 ref:∀ r,d.ref=some r→r∈d.params
 dfl:d.ref.isNone=true∨gM f=0∨d.dflts=[]
 dl:d.dflts.length≤d.params.length
 fr:d.fresh=true→d.ref=none∧∃ es pe pos,b=[.Return (some (.List es pe)) pos]
noncomputable def wF (ref:Option Nm):List Nm→List Value→Value→List Value
 | []=>fun us _=>us
 | x::xs=>fun us rv=>if ref=some x then rv::wF ref xs us rv else match us with
  | u::us=>u::wF ref xs us rv
  | []=>[]
theorem xz {ref:Option Nm} {rv:Value} {xs:List Nm}:∀ {us:List Value},(∀ x∈xs,ref≠some x)→wF ref xs us rv=us:=by
 induction xs with
 | nil=>exact fun _=>rfl
 | cons x xs ih=>
  intro us h
  refine (av (h x (.head _))).trans ?_
  induction us with
  | nil=>rfl
  | cons u us=>exact aw _ (ih fun y m=>h y (.tail _ m))
theorem Ij {r:Nm} {rv:Value} {xs:List Nm}:∀ {us:List Value},r∈xs→xs.Nodup→us.length+1=xs.length→wF (some r) xs us rv=us.insertIdx (xs.idxOf r) rv:=by
 induction xs with
 | nil=>intro us h;exact nomatch h
 | cons x xs ih=>
  intro us h nd l
  have nd:=cP.mp nd
  rw [List.idxOf_cons]
  by_cases e:r=x
  ·subst e
   rw [beq_self_eq_true]
   refine (au rfl).trans ?_
   rw [xz fun y m e=>nd.1 (by rw [az e];exact m)];rfl
  ·have hm:r∈xs:=(aU.mp h).resolve_left e
   rw [eG.mpr fun q=>e q.symm]
   refine (av (fun q=>e (az q))).trans ?_
   induction us with
   | nil=>exact absurd (List.length_pos_of_mem hm) (Nat.not_lt.mpr (er (Nat.succ.inj l).symm))
   | cons u us=>exact aw _ (ih hm nd.2 (Nat.succ.inj l))
section
variable {W:Wd} {F:Addr→Prop} {h:Heap} {as:List Addr} {rv:Value} {ref:Option Nm}
noncomputable def xk (W:Wd) (F:Addr→Prop) (h:Heap) (ref:Option Nm) (as:List Addr) (rv:Value) (i:Nm) (v:Value) (s:Slot):Prop:=if ref=some i then v=rv∧∃ t,s=.own true t∧gu W F h as t v else ∃ t,s=.val t∧VR W F h t v
inductive ir (W:Wd) (F:Addr→Prop) (h:Heap) (ref:Option Nm) (as:List Addr) (rv:Value):List Nm→List Value→Env→Prop
 | nil:ir W F h ref as rv [] [] []
 | cons {i:Nm} {v:Value} {s:Slot} {is:List Nm} {vs:List Value} {ρ:Env} (a:xk W F h ref as rv i v s) (r:ir W F h ref as rv is vs ρ):ir W F h ref as rv (i::is) (v::vs) ((i,s)::ρ)
theorem xk.elim {i:Nm} {s:Slot} (x:xk W F h ref as rv i v s) (k:ref=some i→v=rv→∀ t,s=.own true t→gu W F h as t v→P) (l:ref≠some i→∀ t,s=.val t→VR W F h t v→P):P:=by
 unfold xk at x
 by_cases e:ref=some i
 ·rw [au e] at x;obtain ⟨a,t,b,c⟩:=x;exact k e a t b c
 ·rw [av e] at x;obtain ⟨t,b,c⟩:=x;exact l e t b c
theorem qx {x:Nm} {xs:List Nm} {ts:List T} {r:Option T} (e:i0 ref (x::xs) ts r=some ρ) (k:ref=some x→∀ t ρ',r=some t→i0 ref xs ts r=some ρ'→ρ=(x,.own true t)::ρ'→P)
  (l:ref≠some x→∀ t ts' ρ',ts=t::ts'→i0 ref xs ts' r=some ρ'→ρ=(x,.val t)::ρ'→P):P:=by
 by_cases h:ref=some x
 ·have e:=(show i0 ref (x::xs) ts r=_ from au h).symm.trans e
  induction r with
  | none=>exact nn e
  | some t=>exact eT e fun ρ' a b=>k h t ρ' rfl a b
 ·have e:=(show i0 ref (x::xs) ts r=_ from av h).symm.trans e
  induction ts with
  | nil=>exact nn e
  | cons t ts=>exact eT e fun ρ' a b=>l h t ts ρ' rfl a b
theorem IQ {r:Option T} (hr:∀ t,r=some t→gu W F h as t rv):∀ {ts:List T} {us:List Value} {ρ:Env},bR W F h ts us→i0 ref params ts r=some ρ→ir W F h ref as rv params (wF ref params us rv) ρ:=by
 induction params with
 | nil=>
  intro ts us ρ q e
  induction ts with
  | nil=>rw [← az e,q.inv0];exact .nil
  | cons=>exact nn e
 | cons x xs ih=>
  intro ts us ρ q e
  refine qx e (fun hx t ρ' ht hρ z=>?_) fun hx t ts' ρ' ht hρ z=>?_
  ·rw [z,show wF ref (x::xs) us rv=_ from au hx]
   exact .cons (by unfold xk;rw [au hx];exact ⟨rfl,t,rfl,hr t ht⟩) (ih q hρ)
  ·subst ht
   obtain ⟨v,vs,a,q2⟩:=q.inv
   rw [z,show wF ref (x::xs) (v::vs) rv=_ from av hx]
   exact .cons (by unfold xk;rw [av hx];exact ⟨_,rfl,a⟩) (ih q2 hρ)
theorem AF {r:Option T}:∀ {ts:List T} {ρ:Env},i0 ref params ts r=some ρ→ts.length+(params.countP fun x=>decide (ref=some x))=params.length:=by
 induction params with
 | nil=>
  intro ts ρ e
  induction ts with
  | nil=>rfl
  | cons=>exact nn e
 | cons x xs ih=>
  intro ts ρ e
  refine qx e (fun hx t ρ' ht hρ z=>?_) fun hx t ts' ρ' ht hρ z=>?_
  ·rw [List.countP_cons_of_pos (p:=fun x=>decide (ref=some x)) (br hx)]
   exact aw (·+1) (ih hρ)
  ·rw [List.countP_cons_of_neg (p:=fun x=>decide (ref=some x)) (by rw [decide_eq_false hx];exact bO),ht,eF,eF,Nat.add_right_comm]
   exact aw (·+1) (ih hρ)
theorem AJ {r:Nm} {xs:List Nm}:r∈xs→xs.Nodup→(xs.countP fun x=>decide (some r=some x))=1:=by
 induction xs with
 | nil=>intro h;exact nomatch h
 | cons x xs ih=>
  intro h nd
  have nd:=cP.mp nd
  by_cases e:r=x
  ·rw [List.countP_cons_of_pos (p:=fun x=>decide (some r=some x)) (br (aw some e)),List.countP_eq_zero.mpr fun y m q=>nd.1 (by rw [← e,az (bH q)];exact m)]
  ·rw [List.countP_cons_of_neg (p:=fun x=>decide (some r=some x)) (by rw [decide_eq_false fun q=>e (az q)];exact bO)]
   exact ih ((aU.mp h).resolve_left e) nd.2
noncomputable def fj (L:Addr) (cs:List (Str×Addr)) (sc:PySem.Scope) (ref:Option Nm) (as:List Addr) (rv:Value) (x:Str) (i:Nm):bY:=
 ⟨i,if sc.names.lookup x=some .cell then .cell ((cs.lookup x).getD 0) else .loc L x,if ref=some i then as else [],rv,as⟩
noncomputable def dH (L:Addr) (cs:List (Str×Addr)) (sc:PySem.Scope) (ref:Option Nm) (as:List Addr) (rv:Value):List Str→List Nm→List bY
 | x::xs,i::is=>fj L cs sc ref as rv x i::dH L cs sc ref as rv xs is
 | _,_=>[]
variable {L:Addr} {cs:List (Str×Addr)} {sc:PySem.Scope}
theorem BL {ys:List Str} {js:List Nm}:∀ {is:List Nm},xs.length=is.length→dH L cs sc ref as rv (xs++ys) (is++js)=dH L cs sc ref as rv xs is++dH L cs sc ref as rv ys js:=by
 induction xs with
 | nil=>intro is l;rw [eC l.symm];rfl
 | cons x xs ih=>
  intro is l
  induction is with
  | nil=>exact nomatch l
  | cons i is=>exact aw _ (ih (Nat.succ.inj l))
theorem Bq:∀ {is:List Nm},xs.length=is.length→(dH L cs sc ref as rv xs is).length=is.length:=by
 induction xs with
 | nil=>intro is l;rw [eC l.symm];rfl
 | cons x xs ih=>
  intro is l
  induction is with
  | nil=>exact nomatch l
  | cons i is=>exact aw (·+1) (ih (Nat.succ.inj l))
theorem tz {e:bY}:∀ {is:List Nm},e∈dH L cs sc ref as rv xs is→∃ x i,x∈xs∧e=fj L cs sc ref as rv x i:=by
 induction xs with
 | nil=>intro is h;exact nomatch h
 | cons x xs ih=>
  intro is h
  induction is with
  | nil=>exact nomatch h
  | cons i is=>
   rcases aU.mp h with h | h
   ·exact ⟨x,i,.head _,h⟩
   ·obtain ⟨y,j,m,r⟩:=ih h;exact ⟨y,j,.tail _ m,r⟩
theorem jk (hi:bp i x):∀ {is:List Nm},dM tb xs=some is→x∈xs→first (dH L cs sc ref as rv xs is) i=some (fj L cs sc ref as rv x i):=by
 induction xs with
 | nil=>intro is _ m;exact nomatch m
 | cons y xs ih=>
  intro is h m
  refine gI h fun j js hj hjs z=>?_
  have hj:=dg hj
  rw [z]
  show List.find? _ (fj L cs sc ref as rv y j::_)=some _
  rw [List.find?_cons]
  by_cases e:j=i
  ·rw [show ((fj L cs sc ref as rv y j).nm==i)=true from bm.mpr e,hj.fn (e▸hi),e]
  ·rw [show ((fj L cs sc ref as rv y j).nm==i)=false from eG.mpr e]
   exact ih hjs ((aU.mp m).resolve_left fun z=>e (hj.inj (z▸hi)))
theorem Ak {ys:List Str} {js:List Nm}:∀ {is:List Nm},dM tb xs=some is→dM tb ys=some js→dM tb (xs++ys)=some (is++js):=by
 induction xs with
 | nil=>intro is h h';rw [← az h];exact h'
 | cons x xs ih=>
  intro is h h'
  refine gI h fun j ks hj hks z=>?_
  show ((tb.id x).bind fun i=>(dM tb (xs++ys)).map (i::·))=_
  rw [hj,fR,ih hks h',z];rfl
theorem zP:∀ {ks:List Nm},dM tb xs=some ks→j∈ks→∃ y∈xs,bp j y:=by
 induction xs with
 | nil=>intro ks h m;rw [← az h] at m;exact nomatch m
 | cons y ys ih=>
  intro ks h m
  refine gI h fun j' ks' hj' hks' z=>?_
  rw [z] at m
  rcases aU.mp m with rfl | m
  ·exact ⟨y,.head _,dg hj'⟩
  ·obtain ⟨z,hz,q⟩:=ih hks' m;exact ⟨z,.tail _ hz,q⟩
theorem t7:∀ {is:List Nm},dM tb xs=some is→xs.Nodup→is.Nodup:=by
 induction xs with
 | nil=>intro is h _;rw [← az h];exact cK
 | cons x xs ih=>
  intro is h nd
  have nd:=cP.mp nd
  refine gI h fun j ks hj hks z=>z▸cP.mpr ⟨fun m=>?_,ih hks nd.2⟩
  obtain ⟨y,hy,q⟩:=zP hks m
  exact nd.1 ((dg hj).fn q▸hy)
theorem MX (hc:∀ {x y:Str},sc.names.lookup x=some .cell→sc.names.lookup y=some .cell→(cs.lookup x).getD 0=(cs.lookup y).getD 0→x=y) (e:(fj L cs sc ref as rv y j).pl=(fj L cs sc ref as rv x i).pl):y=x:=by
 have e:(if sc.names.lookup y=some .cell then dj.cell ((cs.lookup y).getD 0) else .loc L y)=(if sc.names.lookup x=some .cell then dj.cell ((cs.lookup x).getD 0) else .loc L x):=e
 by_cases h1:sc.names.lookup y=some .cell
 ·by_cases h2:sc.names.lookup x=some .cell
  ·rw [au h1,au h2] at e;exact hc h1 h2 (dj.cell.inj e)
  ·rw [au h1,av h2] at e;exact nomatch e
 ·by_cases h2:sc.names.lookup x=some .cell
  ·rw [av h1,au h2] at e;exact nomatch e
  ·rw [av h1,av h2] at e;exact (dj.loc.inj e).2
theorem xP (hc:∀ {x y:Str},sc.names.lookup x=some .cell→sc.names.lookup y=some .cell→(cs.lookup x).getD 0=(cs.lookup y).getD 0→x=y):∀ {is:List Nm},xs.Nodup→((dH L cs sc ref as rv xs is).map (·.pl)).Nodup:=by
 induction xs with
 | nil=>exact fun _=>cK
 | cons x xs ih=>
  intro is nd
  induction is with
  | nil=>exact cK
  | cons i is=>
   have nd:=cP.mp nd
   refine cP.mpr ⟨fun m=>?_,ih nd.2⟩
   obtain ⟨e,he,q⟩:=bo.mp m
   obtain ⟨y,j,hy,z⟩:=tz he
   exact nd.1 (MX hc (z▸q)▸hy)
noncomputable def xU (h:Heap) (L:Addr) (cs:List (Str×Addr)) (sc:PySem.Scope) (ref:Option Nm) (as:List Addr) (rv:Value) (xs:List Str) (vs:List Value):Prop:=∀ (k:Nat) (x:Str) (v:Value),xs[k]? = some x→vs[k]? = some v→∀ i,(fj L cs sc ref as rv x i).pl.Holds h (some v)
theorem FV (b:ir W F h ref as rv is vs ρ):∀ {xs:List Str},xs.length=is.length→xU h L cs sc ref as rv xs vs→hY W F h (dH L cs sc ref as rv xs is) ρ:=by
 induction b with
 | nil=>intro xs l _;rw [eC l];rfl
 | cons a r ih=>
  intro xs l H
  induction xs with
  | nil=>exact nomatch l
  | cons x xs=>
   refine ⟨rfl,?_,ih (Nat.succ.inj l) fun k x v hx hv=>H (k+1) x v hx hv⟩
   have hp:=H 0 x _ rfl rfl
   exact a.elim (fun hr e t ht r=>by rw [ht];exact ⟨_,hp _,by show gu W F h (if ref=some _ then as else []) t _;rw [au hr];exact r⟩) fun _ t ht r=>by rw [ht];exact ⟨_,hp _,r⟩
theorem Df:(∀ x∈xs,∀ i,(fj L cs sc ref as rv x i).pl.Holds h none)→∀ {is:List Nm},xs.length=is.length→hY W F h (dH L cs sc ref as rv xs is) (is.map fun x=>(x,Slot.unb)):=by
 induction xs with
 | nil=>intro _ is l;rw [eC l.symm];rfl
 | cons x xs ih=>
  intro H is l
  induction is with
  | nil=>exact nomatch l
  | cons i is=>exact ⟨rfl,H x (.head _) i,ih (fun y m=>H y (.tail _ m)) (Nat.succ.inj l)⟩
structure I7 (ref:Option Nm) (as:List Addr) (is:List Nm) (l:List Addr):Prop where
 a:∀ a∈l,a∈as
 b:as.Nodup→l.Nodup
 c:(∀ i∈is,ref≠some i)→l=[]
theorem Ox (b:ir W F h ref as rv is vs ρ):∀ {xs:List Str},xs.length=is.length→is.Nodup→I7 ref as is (bk (dH L cs sc ref as rv xs is) ρ):=by
 induction b with
 | nil=>intro xs l _;rw [eC l];exact ⟨(fun a m=>nomatch m),fun _=>cK,fun _=>rfl⟩
 | @cons i v sl is vs ρ a r ih=>
  intro xs l nd
  induction xs with
  | nil=>exact nomatch l
  | cons x xs=>
   have nd:=cP.mp nd
   have o:=ih (Nat.succ.inj l) nd.2
   show I7 ref as (i::is) (ownOf (fj L cs sc ref as rv x i) sl++bk (dH L cs sc ref as rv xs is) ρ)
   refine a.elim (fun hr _ t ht _=>?_) fun hr t ht _=>?_
   ·rw [o.c fun j m e=>nd.1 (az (hr.symm.trans e)▸m),ht,cr,show ownOf (fj L cs sc ref as rv x i) (.own true t)=as from au hr]
    exact ⟨fun a m=>m,fun n=>n,fun k=>absurd hr (k i (.head _))⟩
   ·rw [ht]
    exact ⟨o.a,o.b,fun k=>o.c fun j m=>k j (.tail _ m)⟩
theorem Pu (b:ir W F h ref as rv is vs ρ):∀ {xs:List Str},xs.length=is.length→xU h L cs sc ref as rv xs vs→rh h (dH L cs sc ref as rv xs is) ρ:=by
 induction b with
 | nil=>intro xs l _;rw [eC l];trivial
 | cons a r ih=>
  intro xs l H
  induction xs with
  | nil=>exact nomatch l
  | cons x xs=>
   refine ⟨?_,ih (Nat.succ.inj l) fun k x v hx hv=>H (k+1) x v hx hv⟩
   exact a.elim (fun hr e t ht r=>by rw [ht];subst e;exact ⟨H 0 x _ rfl rfl _,au hr⟩) fun _ t ht r=>by rw [ht];trivial
end
theorem mY {k:Str→Option NameKind} {bs:List (Str×Value)}:∀ {m:Str→Option Value},x∉bs.map (·.1)→bindL k bs m x=m x∧bindC k bs m x=m x:=by
 induction bs with
 | nil=>exact fun _=>⟨rfl,rfl⟩
 | cons p r ih=>
  intro m h
  obtain ⟨n,v⟩:=p
  have h:=not_or.mp fun k=>h (aU.mpr k)
  have h1:x≠n:=h.1
  unfold bindL bindC
  rw [(ih h.2).1,(ih h.2).2]
  by_cases q:k n=some .local
  ·rw [au q,au q,av h1];exact ⟨rfl,rfl⟩
  ·rw [av q,av q,av h1];exact ⟨rfl,rfl⟩
theorem DT {k:Str→Option NameKind} {bs:List (Str×Value)}:∀ {m:Str→Option Value},(x,v)∈bs→(bs.map (·.1)).Nodup→(k x=some .local→bindL k bs m x=some v)∧(k x≠some .local→bindC k bs m x=some v):=by
 induction bs with
 | nil=>intro m h;exact nomatch h
 | cons p r ih=>
  intro m h nd
  obtain ⟨n,u⟩:=p
  have nd:=cP.mp nd
  unfold bindL bindC
  rcases aU.mp h with e | h
  ·obtain rfl:x=n:=aw Prod.fst e
   obtain rfl:v=u:=aw Prod.snd e
   rw [(mY nd.1).1,(mY nd.1).2]
   exact ⟨fun hk=>by rw [au hk,au rfl],fun hk=>by rw [av hk,au rfl]⟩
  ·exact ⟨fun hk=>(ih h nd.2).1 hk,fun hk=>(ih h nd.2).2 hk⟩
theorem J3 {x:α} {v:β} {xs:List α}:∀ {vs:List β} {k:Nat},xs[k]? = some x→vs[k]? = some v→(x,v)∈xs.zip vs:=by
 induction xs with
 | nil=>intro vs k h;exact nn h
 | cons a xs ih=>
  intro vs k h1 h2
  induction vs with
  | nil=>exact nn h2
  | cons b vs=>
   induction k with
   | zero=>rw [← az h1,← az h2];exact .head _
   | succ k=>exact .tail _ (ih (k:=k) h1 h2)
theorem wD {xs:List α}:∀ {vs:List β},xs.length=vs.length→(xs.zip vs).map (·.1)=xs:=by
 induction xs with
 | nil=>exact fun _=>rfl
 | cons a xs ih=>
  intro vs l
  induction vs with
  | nil=>exact nomatch l
  | cons b vs=>exact aw _ (ih (Nat.succ.inj l))
theorem ir.len {h:Heap} {ref:Option Nm} {rv:Value} (x:ir W F h ref as rv is vs ρ):vs.length=is.length∧ρ.length=is.length:=by
 induction x with
 | nil=>exact ⟨rfl,rfl⟩
 | cons a r ih=>exact ⟨aw (·+1) ih.1,aw (·+1) ih.2⟩
theorem ir.up {h h':Heap} {ref:Option Nm} {rv:Value} (k:∀ b o,h.get? b=some o→h'.get? b=some o) (x:ir W F h ref as rv is vs ρ):ir W F h' ref as rv is vs ρ:=by
 induction x with
 | nil=>exact .nil
 | cons a r ih=>
  refine .cons (a.elim (fun hr e t ht r=>?_) fun hr t ht r=>?_) ih
  ·unfold xk;rw [au hr];exact ⟨e,t,ht,r.mono (fun _ f=>f) fun a o _ e=>k a o e⟩
  ·unfold xk;rw [av hr];exact ⟨t,ht,r.mono (fun _ f=>f) fun a o _ e=>k a o e⟩
structure IV (W:Wd) (F:Addr→Prop) (as:List Addr) (d:aG) (sc:PySem.Scope) (rv:Value) (env:PySem.Env) (xs ys:List Str) (ρ:Env) (s s₁:Shared):Prop where
 sees:dc W sc env (dH env.locals env.cells sc d.ref as rv (xs++ys) (d.params++d.locals))
 st:St W F (dH env.locals env.cells sc d.ref as rv (xs++ys) (d.params++d.locals)) (ρ++c8 d.locals []) s₁
 keep:∀ b o,s.heap.get? b=some o→s₁.heap.get? b=some o
 gens:s₁.gens=s.gens
 os:s₁.os=s.os
 own:∀ a∈bk (dH env.locals env.cells sc d.ref as rv (xs++ys) (d.params++d.locals)) (ρ++c8 d.locals []),a∈as
 new:∀ e∈dH env.locals env.cells sc d.ref as rv (xs++ys) (d.params++d.locals),s.heap.get? e.pl.addr=none
theorem D0 {f:Nat} {p:Arguments} {ow:List Str} {d:aG} {rv:Value} {ys:List Str} {s₁:Shared} {qual:Str} {fn:Option Addr} {code:Value}
  (S:FA f p b sc ow d xs ys) (he:env=newEnv sc s.heap.objs.size W.g (cellsFrom (s.heap.objs.size+1) sc.names []) qual fn code none W.b)
  (x:InCallC s env.locals (bindL env.kindOf (xs.zip vals) fun _=>none) env.cells (bindC env.kindOf (xs.zip vals) fun _=>none) s₁)
  (hk:∀ b o,W.h0.get? b=some o→s.heap.get? b=some o) (hF0:∀ a,W.F0 a→F a) (hF:∀ a,F a→∃ o,s.heap.get? a=some o) (nd:as.Nodup) (hn:∀ a∈as,¬ F a∧W.h0.get? a=none) (hl:∀ a∈as,∃ o,s.heap.get? a=some o)
  (B:ir W F s.heap d.ref as rv d.params vals ρ):IV W F as d sc rv env xs ys ρ s s₁:=by
 have lx:=mQ S.px
 have ly:=mQ S.py
 have hkind:∀ z,env.kindOf z=sc.names.lookup z:=fun z=>by subst he;rfl
 have hL:env.locals=s.heap.objs.size:=by subst he;rfl
 have hcells:env.cells=cellsFrom (s.heap.objs.size+1) sc.names []:=by subst he;rfl
 have kp:=x.toInCall.keep
 have cell:∀ {z:Str},sc.names.lookup z=some .cell→∃ c,env.cells.lookup z=some c:=fun {z} h=>by
  rw [hcells]
  exact Option.isSome_iff_exists.mp (PySem.W.cellsFrom_some _ _ _ (.inl h))
 have vlen:=B.len
 have zk:(xs.zip vals).map (·.1)=xs:=wD (by rw [vlen.1,lx])
 have ndx:xs.Nodup:=(cD.mp S.nd).1
 have par:xU s₁.heap env.locals env.cells sc d.ref as rv xs vals:=fun k z v hz hv i=>by
  obtain ⟨h1,h2⟩:=DT (k:=env.kindOf) (m:=fun _=>none) (J3 hz hv) (by rw [zk];exact ndx)
  rcases S.nms z (eY _ (List.mem_of_getElem? hz)) with q | q
  ·have e:(fj env.locals env.cells sc d.ref as rv z i).pl=.loc env.locals z:=by unfold fj;rw [q];rfl
   rw [e]
   exact ⟨_,x.toInCall.ns,h1 (by rw [hkind,q])⟩
  ·obtain ⟨c,hc⟩:=cell q
   have e:(fj env.locals env.cells sc d.ref as rv z i).pl=.cell c:=by unfold fj;rw [q,hc];rfl
   rw [e]
   have:=x.cell z c hc
   rw [h2 (by rw [hkind,q];decide)] at this
   exact this
 have loc:∀ z∈ys,∀ i,(fj env.locals env.cells sc d.ref as rv z i).pl.Holds s₁.heap none:=fun z hz i=>by
  have hnx:z∉(xs.zip vals).map (·.1):=by
   rw [zk]
   exact fun m=>(cD.mp S.nd).2.2 z m z hz rfl
  obtain ⟨h1,h2⟩:=mY (k:=env.kindOf) (m:=fun _=>none) hnx
  rcases S.nms z (dq _ hz) with q | q
  ·have e:(fj env.locals env.cells sc d.ref as rv z i).pl=.loc env.locals z:=by unfold fj;rw [q];rfl
   rw [e]
   exact ⟨_,x.toInCall.ns,h1⟩
  ·obtain ⟨c,hc⟩:=cell q
   have e:(fj env.locals env.cells sc d.ref as rv z i).pl=.cell c:=by unfold fj;rw [q,hc];rfl
   rw [e]
   have:=x.cell z c hc
   rw [h2] at this
   exact this
 have new:∀ e∈dH env.locals env.cells sc d.ref as rv (xs++ys) (d.params++d.locals),s.heap.get? e.pl.addr=none:=fun e he'=>by
  obtain ⟨z,i,hz,rfl⟩:=tz he'
  rcases S.nms z hz with q | q
  ·have e:(fj env.locals env.cells sc d.ref as rv z i).pl=.loc env.locals z:=by unfold fj;rw [q];rfl
   rw [e]
   show s.heap.get? env.locals=none
   rw [hL];exact aS _
  ·obtain ⟨c,hc⟩:=cell q
   have e:(fj env.locals env.cells sc d.ref as rv z i).pl=.cell c:=by unfold fj;rw [q,hc];rfl
   rw [e]
   show s.heap.get? c=none
   have:=x.above z c (PySem.mem_of_lookup hc)
   rw [hL] at this
   induction q2:s.heap.get? c with
   | none=>rfl
   | some o=>exact absurd (ef q2) (Nat.not_lt.mpr (Nat.le_of_lt this))
 have hcu:∀ {y z:Str},sc.names.lookup y=some .cell→sc.names.lookup z=some .cell→(env.cells.lookup y).getD 0=(env.cells.lookup z).getD 0→y=z:=fun {y z} h1 h2 e=>by
  obtain ⟨c,hc⟩:=cell h1
  obtain ⟨c',hc'⟩:=cell h2
  rw [hc,hc'] at e
  have e:c=c':=e
  subst e
  exact name_of_addr x.apart (PySem.mem_of_lookup hc) (PySem.mem_of_lookup hc')
 have B'1:=B.up kp
 have G0:dH env.locals env.cells sc d.ref as rv (xs++ys) (d.params++d.locals)=dH env.locals env.cells sc d.ref as rv xs d.params++dH env.locals env.cells sc d.ref as rv ys d.locals:=BL lx
 have lG:(dH env.locals env.cells sc d.ref as rv xs d.params).length=ρ.length:=by rw [Bq lx,vlen.2]
 have epu:c8 d.locals []=d.locals.map fun x=>(x,Slot.unb):=by unfold c8;rw [cr]
 have e1:=FV (W:=W) (F:=F) B'1 lx par
 have ndp:=t7 S.px ndx
 obtain ⟨o1,o2,_⟩:=Ox (L:=env.locals) (cs:=env.cells) (sc:=sc) B'1 lx ndp
 have O:bk (dH env.locals env.cells sc d.ref as rv (xs++ys) (d.params++d.locals)) (ρ++c8 d.locals [])=bk (dH env.locals env.cells sc d.ref as rv xs d.params) ρ:=by
  rw [G0,ce lG,epu,xA,cr]
 have none0:∀ a,s.heap.get? a=none→W.h0.get? a=none:=fun a e=>by
  induction q:W.h0.get? a with
  | none=>rfl
  | some o=>rw [hk a o q] at e;exact nomatch e
 have hids:=Ak S.px S.py
 refine ⟨⟨by subst he;exact S.kind,by subst he;rfl,by subst he;rfl,fun z i h hi=>⟨by rw [hkind,h],_,jk hi hids (S.all z _ h (.inl rfl)),by unfold fj;rw [h];rfl⟩,fun z i h hi=>?_,fun z i h hi=>absurd h (S.nofree z),fun z h=>by rw [hkind,h]⟩,
  ⟨?_,fun b o e=>kp b o (hk b o e),hF0,fun a f=>let ⟨o,e⟩:=hF a f;⟨o,kp a o e⟩,xP hcu S.nd,by rw [O];exact o2 nd,by rw [O];exact fun a m=>(hn a (o1 a m)).1,?_,fun e he f=>?_,by rw [O];exact fun a m=>(hn a (o1 a m)).2,fun e he=>none0 _ (new e he),?_⟩,kp,?_,?_,by rw [O];exact o1,new⟩
 ·obtain ⟨c,hc⟩:=cell h
  exact ⟨by rw [hkind,h],_,c,jk hi hids (S.all z _ h (.inr rfl)),by unfold fj;rw [h,hc];rfl,hc⟩
 ·rw [G0]
  exact (cF lG).mpr ⟨e1,by rw [epu];exact Df loc ly⟩
 ·rw [O]
  intro a m e he z
  obtain ⟨o,ho⟩:=hl a (o1 a m)
  rw [← z,new e he] at ho;exact nn ho
 ·obtain ⟨o,ho⟩:=hF _ f
  rw [new e he] at ho;exact nn ho
 ·rw [G0]
  exact (cE lG).mpr ⟨Pu B'1 lx par,by rw [epu];exact At⟩
 ·obtain ⟨h,tk,e⟩:=x.toInCall.same;rw [e]
 ·obtain ⟨h,tk,e⟩:=x.toInCall.same;rw [e]
theorem St.fixed (x:St W F G ρ s) {n:Nm} {e:bY} (f:first G n=some e) {t:T} (h:ρ.get n=.own true t):gu W F s.heap e.fo t e.fv∧∀ a∈e.fo,¬ F a:=by
 have lk:=x.look f
 have own:=ji x f h
 obtain ⟨G'1,G'2,ρ1,ρ2,sl,rfl,rfl,hl,hg,hs,hne,_⟩:=x.env.split f
 rw [h] at hg lk;subst hg
 obtain ⟨v,hv,r⟩:=lk
 obtain ⟨h1,h2⟩:=((cE hl).mp x.fix).2.1
 have:v=e.fv:=az (hv.inj h1)
 subst this
 rw [h2] at r own
 exact ⟨r,own⟩
theorem Cu:∀ {G':List bY},G'.map bY.sh=G.map bY.sh→∀ i e,first G i=some e→∃ e',first G' i=some e'∧e'.fv=e.fv∧e'.fo=e.fo:=by
 induction G with
 | nil=>intro G' _ i e h;exact nn h
 | cons a G ih=>
  intro G' sh
  induction G' with
  | nil=>exact nomatch sh
  | cons b G'=>
   have h1:=(List.cons.inj sh).1
   intro i e h
   unfold first at h ⊢
   rw [List.find?_cons] at h ⊢
   rw [show b.nm=a.nm from aw (·.1) h1]
   induction q:a.nm==i with
   | true=>rw [q] at h;rw [← az h];exact ⟨b,rfl,aw (·.2.2.1) h1,aw (·.2.2.2) h1⟩
   | false=>rw [q] at h;exact ih (List.cons.inj sh).2 i e h
end
section
noncomputable def CS (W:Wd):Prop:=∀ f p b sc,f < 79→W.src f=some (p,b,sc)→∃ d xs ys,f0 f=some d∧FA f p b sc (W.ow f) d xs ys
section
variable {W:Wd} {n:Nat}
theorem rK.live {h:Heap} {r:Option T} {rv:Option Value} (x:rK W F h as r rv):∀ a∈as,∃ o,h.get? a=some o:=by
 induction r with
 | none=>
  induction rv with
  | none=>intro a m;rw [show as=[] from x] at m;exact nomatch m
  | some v=>exact x.elim
 | some t=>
  induction rv with
  | none=>exact x.elim
  | some v=>exact fun a m=>gu.live x m
theorem Fw {p:Nat} {ds:List Value} (h:p=0∨(p≤vs.length∧ds=[])):vs.insertIdx p v++ds=(vs++ds).insertIdx p v:=by
 rcases h with rfl | ⟨_,rfl⟩
 ·simp
 ·simp
theorem rK.none_ {h:Heap} {r:Option T} {rv:Option Value} (x:rK W F h as r rv) (e:r.isSome=false):r=none∧rv=none∧as=[]:=by
 induction r with
 | some t=>exact nomatch e
 | none=>induction rv with
  | none=>exact ⟨rfl,rfl,x⟩
  | some v=>exact x.elim
theorem rK.some_ {h:Heap} {r:Option T} {rv:Option Value} (x:rK W F h as r rv) (e:r.isSome=true):∃ v,rv=some v:=by
 induction r with
 | none=>exact nomatch e
 | some t=>induction rv with
  | none=>exact x.elim
  | some v=>exact ⟨v,rfl⟩
structure JR (p:Nat) (ref:Option Nm) (params:List Nm) (vs ds:List Value) (rv:Option Value) (np:Nat):Prop where
 e:pz p rv vs++ds.drop (ds.length - (params.length - (pz p rv vs).length))=wF ref params (vs++ds.drop (ds.length - (np - vs.length))) (rv.getD .none)
 a:(pz p rv vs).length≤params.length
 b:params.length≤(pz p rv vs).length+ds.length
theorem Bn {p:Nat} {ds:List Value} (h1:vs.length≤params.length) (h2:params.length≤vs.length+ds.length):JR p none params vs ds none params.length:=
 ⟨(xz (ref:=none) fun _ _ e=>nomatch e).symm,h1,h2⟩
theorem Bh {r0:Nm} {ds:List Value} {np:Nat} (hm:r0∈params) (nd:params.Nodup) (hp:np+1=params.length) (h1:vs.length≤np) (h2:np≤vs.length+ds.length) (hle:params.idxOf r0=0∨(params.idxOf r0≤vs.length∧ds=[])) :
  JR (params.idxOf r0) (some r0) params vs ds (some v) np:=by
 have hle':params.idxOf r0≤vs.length:=hle.elim (fun q=>q▸ck _) fun q=>q.1
 have il:(vs.insertIdx (params.idxOf r0) v).length=vs.length+1:=by rw [List.length_insertIdx,au hle']
 have il2:(pz (params.idxOf r0) (some v) vs).length=vs.length+1:=il
 refine ⟨?_,by rw [il2,← hp];exact gR h1,by rw [il2,← hp,Nat.add_right_comm];exact gR h2⟩
 rw [il2,← hp,Nat.add_sub_add_right]
 exact (Fw (hle.imp id fun q=>⟨q.1,by rw [q.2,List.drop_nil]⟩)).trans (Ij hm nd (by rw [bS,List.length_drop,← hp,Ju h1 h2])).symm
theorem Jf {a d p:Nat} (h:a+(d - (d - (p - a)))=p):a≤p∧p≤a+d:=⟨aH (Nat.le_add_right _ _) (er h),aH (er h.symm) (Nat.add_le_add_left (Nat.sub_le _ _) _)⟩
theorem LW {a d p:Nat} (h:a+(d - (d - (p - 1 - a)))+1=p):p - 1+1=p∧a≤p - 1∧p - 1≤a+d:=
 have hp:p - 1+1=p:=Nat.sub_add_cancel (aH (Nat.le_add_left 1 _) (er h))
 ⟨hp,Jf (Nat.succ.inj (h.trans hp.symm))⟩
theorem Ly {p a:Nat} (h:i < p) (h2:p - 1≤a):i≤a:=aH (Nat.le_sub_one_of_lt h) h2
set_option backward.match.sparseCases true in
theorem zJ (hw:gW W) {f:Nat} {p:Arguments} {d:aG} {ys:List Str} (K:KX W f p b sc) (S:FA f p b sc (W.ow f) d xs ys) (hd:f0 f=some d)
  {A:Around} {F:Addr→Prop} {s:Shared} {ts:List T} {vs:List Value} {r:Option T} {rv:Option Value} {as:List Addr} {R:Result→Shared→Prop} {ρ:Env} (hA:ON (n+1) A)
  (hk:∀ b o,W.h0.get? b=some o→s.heap.get? b=some o) (hF0:∀ a,W.F0 a→F a) (hF:∀ a,F a→∃ o,s.heap.get? a=some o) (hv:bR W F s.heap ts vs) (hr:rK W F s.heap as r rv) (nd:as.Nodup) (hn:∀ a∈as,¬ F a∧W.h0.get? a=none)
  (hrs:d.ref.isSome=r.isSome) (hb:i0 d.ref d.params (rS (vI d) ts d.dflts) r=some ρ)
  (go:∀ E env s₁,sL n (A.deeper env)→IV W F as d sc (rv.getD .none) env xs ys ρ s s₁→wpAny (model W.prog W.w) (A.deeper env) (execs b env) (fun fl s'=>R (.ok (.ret (match fl with | .ret v=>v | _=>.none))) s') E s₁) :
  codeAny (model W.prog W.w) A (.call (.ref (W.fa f)) ⟨pz (gM f) rv vs,[]⟩) R s:=by
 obtain ⟨o,fd,ho,hfd,hp,hbd,hsc,hcl,hg,hbn,hcd,dr,vrd,hsi⟩:=K.obj
 rw [hd] at vrd
 have vrd:bR W W.F0 W.h0 d.dflts (dr.getD #[]).toList:=vrd
 have vrd':bR W F s.heap d.dflts (dr.getD #[]).toList:=vrd.mono hF0 fun a o _ e=>hk a o e
 have dlen:=vrd.length
 have vlen:=hv.length
 have lx:=mQ S.px
 have hR:∀ t,r=some t→gu W F s.heap as t (rv.getD .none):=fun t e=>by
  subst e
  induction rv with
  | none=>exact hr.elim
  | some v=>exact hr
 have blen:=AF hb
 have VW:bR W F s.heap (rS (vI d) ts d.dflts) (vs++(dr.getD #[]).toList.drop ((dr.getD #[]).toList.length - (vI d - vs.length))):=by
  unfold rS
  rw [← dlen,← vlen]
  exact hv.append (vrd'.drop _)
 have B:=IQ hR VW hb
 have ndp:=t7 S.px (cD.mp S.nd).1
 have wlen:(rS (vI d) ts d.dflts).length=ts.length+(d.dflts.length - (d.dflts.length - (vI d - ts.length))):=by
  unfold rS
  rw [bS,List.length_drop]
 rw [wlen] at blen
 have hrefp:∀ r0,d.ref=some r0→gM f=d.params.idxOf r0:=fun r0 hrf=>by
  unfold gM;rw [hd];dsimp only;rw [hrf]
 have same:JR (gM f) d.ref d.params vs (dr.getD #[]).toList rv (vI d):=by
  unfold vI at blen ⊢
  induction hrf:d.ref with
  | none=>
   rw [hrf] at hrs blen
   rw [(hr.none_ hrs.symm).2.1]
   rw [List.countP_eq_zero.mpr fun y m q=>nomatch bH q] at blen
   have blen:ts.length+(d.dflts.length - (d.dflts.length - (d.params.length - ts.length)))=d.params.length:=blen
   have w:=Jf blen
   exact Bn (vlen▸w.1) (vlen▸dlen▸w.2)
  | some r0=>
   have hm:=S.ref r0 hrf
   rw [hrf] at hrs blen
   obtain ⟨v,hv'⟩:=hr.some_ hrs.symm
   rw [hv',hrefp r0 hrf]
   rw [AJ hm ndp] at blen
   have blen:ts.length+(d.dflts.length - (d.dflts.length - (d.params.length - 1 - ts.length)))+1=d.params.length:=blen
   have hlt:=List.idxOf_lt_length_iff.mpr hm
   have w:=LW blen
   refine Bh hm ndp (np:=d.params.length - 1) w.1 (vlen▸w.2.1) (vlen▸dlen▸w.2.2) ?_
   rcases S.dfl with q | q | q
   ·rw [hrf] at q;exact nomatch q
   ·exact .inl (hrefp r0 hrf▸q)
   ·have l0:d.dflts.length=0:=by rw [q];rfl
    exact .inr ⟨Ly hlt (vlen▸(l0▸w.2.2 :)),eC (dlen.symm.trans l0)⟩
 obtain ⟨s1,s2,s3⟩:=same
 rw [← lx] at s1 s2 s3
 rw [← s1] at B
 refine codeAny_call_function (fd:=fd) (body:=b) (by have:=hA.depth;have:recursionLimit=1000:=rfl;lia) (hk _ _ ho) hfd (by rw [hsc];exact S.co) (by rw [hsc];exact S.gen) hbd ?_ ?_
 ·exact hcd.keeps hk
 refine Gm (xs:=xs) (ds:=(dr.getD #[]).toList) (by rw [hp];exact S.pl) ⟨dr,rfl,fun Q q=>hsi _ _ _ _ _ hk q⟩ s2 s3 (by rw [← dlen,lx];exact S.dl) ?_
 rw [hcl,hsc]
 have Blen:=B.len
 have bz:(xs.zip (pz (gM f) rv vs++(dr.getD #[]).toList.drop ((dr.getD #[]).toList.length - (xs.length - (pz (gM f) rv vs).length)))).map (·.1)=xs:=wD (by rw [Blen.1,lx])
 refine wpAny_newFunctionEnv_cells S.kind (fun x hx=>?_) fun env he s' x=>?_
 ·have:x.1∈xs:=by rw [← bz];exact List.mem_map_of_mem hx
  rcases S.nms x.1 (eY _ this) with q | q
  ·exact .inl q
  ·exact .inr ⟨q,PySem.W.cellsFrom_some _ _ _ (.inl q)⟩
 ·rw [hg,hbn] at he
  have hl:∀ a∈as,∃ o,s.heap.get? a=some o:=hr.live
  refine ⟨(hw.lim.keeps hk).keeps x.toInCall.keep,codeAny_func (go _ env s' ⟨hA.handled,?_,?_⟩ (D0 S he x hk hF0 hF nd hn hl B))⟩
  ·have:=hA.depth;show A.depth+1+2*n≤900;lia
  ·have:=hA.units;show A.units+3+20*n≤9000;lia
theorem Mk (hw:gW W) (hs:CS W):∀ n,cz W (t6 f0 n) n∧lC W (t6 f0 n) n:=by
 intro n
 induction n with
 | zero=>exact ⟨fun f ts r Q A F s vs rv as E hA hf hk hF0 hF hv hr nd hn q=>q.elim,fun f ts Q A F s vs E hA hf hfr hk hF0 hF hv q=>q.elim⟩
 | succ n ih=>
  obtain ⟨hC,hFr⟩:=ih
  constructor
  ·intro f ts r Q A F s vs rv as E hA hf hk hF0 hF hv hr nd hn q
   obtain ⟨d,hd,hrs,q⟩:=aW q
   obtain ⟨ρ,hb,q⟩:=aW q
   obtain ⟨p,b,sc,hsrc,K⟩:=hw.fo f hf
   obtain ⟨d',xs,ys,hd',S⟩:=hs f p b sc hf hsrc
   rw [hd] at hd';obtain rfl:=az hd'
   refine zJ hw K S hd hA hk hF0 hF hv hr nd hn hrs hb fun E' env s₁ hA' Bg=>?_
   rw [← S.body] at q
   refine ax (H4 hw hC hFr b sc (W.ow f) (A.deeper env) env F _ _ s₁ _ E' hA' Bg.sees Bg.st q) (fun fl s' z=>?_) am
   obtain ⟨fl',F',G',ρ',qf,hfl,st',y⟩:=z
   show Ax W F as s rv Q _ s'
   have kp:∀ b o,b∉as→s.heap.get? b=some o→s'.heap.get? b=some o:=fun b o hb e=>y.keep b o (Bg.keep b o e) (fun m=>hb (Bg.own b m)) fun e' he' z=>by rw [← z,Bg.new e' he'] at e;exact nn e
   have none':∀ a,s₁.heap.get? a=none→s.heap.get? a=none:=fun a e=>cI Bg.keep e
   have rr:∃ r',Q (AR fl') r'∧rK W F' s'.heap as r' rv∧∀ a∈as,¬ F' a:=by
    unfold nu at qf
    induction hrf:d.ref with
    | none=>
     rw [hrf] at qf hrs
     obtain ⟨_,h2,h3⟩:=hr.none_ hrs.symm
     subst h3;subst h2
     exact ⟨none,qf,rfl,fun a m=>nomatch m⟩
    | some r0=>
     rw [hrf] at qf hrs
     obtain ⟨v,rfl⟩:=hr.some_ hrs.symm
     have hids:=Ak S.px S.py
     obtain ⟨z,hz,hzi⟩:=zP hids (eY _ (S.ref r0 hrf))
     have hf0:=jk (L:=env.locals) (cs:=env.cells) (sc:=sc) (ref:=d.ref) (as:=as) (rv:=v) hzi hids hz
     obtain ⟨e',hf',h1,h2⟩:=Cu y.sh _ _ hf0
     have qf:(match ρ'.get r0 with | .own true t=>Q (AR fl') (some t) | _=>False):=qf
     induction ht:ρ'.get r0 with
     | own fx t=>
      rw [ht] at qf
      induction fx with
      | true=>
       obtain ⟨a1,a2⟩:=st'.fixed hf' ht
       rw [h1,h2] at a1
       rw [h2] at a2
       exact ⟨some t,qf,a1,a2⟩
      | false=>exact qf.elim
     | _=>rw [ht] at qf;exact qf.elim
   obtain ⟨r',q,r1,r2⟩:=rr
   refine ⟨AR fl',r',F',q,⟨y.gens.trans Bg.gens,y.os.trans Bg.os,kp,y.mono,fun a fa=>?_⟩,?_,r1,r2⟩
   ·rcases y.freshF a fa with h | h | h
    ·exact .inl h
    ·exact .inr ⟨none' a h,st'.live a fa⟩
    ·exact absurd fa (r2 a (Bg.own a h))
   ·induction hfl with
    | ret t v r=>exact r
    | _=>exact .none
  ·intro f ts Q A F s vs E hA hf hfr hk hF0 hF hv q
   obtain ⟨d,hd,hrs,q⟩:=aW q
   obtain ⟨ρ,hb,q⟩:=aW q
   obtain ⟨p,b,sc,hsrc,K⟩:=hw.fo f hf
   obtain ⟨d',xs,ys,hd',S⟩:=hs f p b sc hf hsrc
   rw [hd] at hd';obtain rfl:=az hd'
   have hfr':d.fresh=true:=by unfold j6 at hfr;rw [hd] at hfr;exact hfr
   obtain ⟨hrf,es,pe,pos,rfl⟩:=S.fr hfr'
   have e0:vs=pz (gM f) none vs:=rfl
   rw [e0]
   refine zJ (as:=[]) (r:=none) (rv:=none) hw K S hd hA hk hF0 hF hv rfl cK (fun a h=>nomatch h) hrs hb fun E' env s₁ hA' Bg=>?_
   rw [← S.body,hrf] at q
   have q:bA tb sc (.List es pe) (t6 f0 n) (ρ++c8 d.locals []) (fun t ρ=>Q t none):=q
   rw [arm_execs_cons]
   refine ac (wpAny_Return_some (ax (rO (W:=W) (C:=t6 f0 n) (n:=n) (fun e _=>rA hw hC e) sc (A.deeper env) env F _ _ s₁ _ E' hA' Bg.sees Bg.st q) (fun v s' z=>?_) am))
   obtain ⟨t,F',ρ',bs,q,st',y,r,ndb,hbs⟩:=z
   refine al ?_
   show D9 W F s Q v s'
   have none':∀ a,s₁.heap.get? a=none→s.heap.get? a=none:=fun a e=>cI Bg.keep e
   refine ⟨t,none,F',bs,q,⟨y.step.gens.trans Bg.gens,y.step.os.trans Bg.os,fun b o _ e=>y.step.keep b o (Bg.keep b o e) (fun m=>nomatch Bg.own b m) fun e' he' z=>(by rw [← z,Bg.new e' he'] at e;exact nn e),y.step.mono,fun a fa=>?_⟩,r,ndb,fun a m=>⟨none' a (hbs a m).1,(hbs a m).2⟩⟩
   rcases y.step.freshF a fa with h | h | h
   ·exact .inl h
   ·exact .inr ⟨none' a h,st'.live a fa⟩
   ·exact nomatch Bg.own a h
end
end
section
noncomputable def Qo:List Nat:=[96,143,500,650,734,821,986,1020,1075,1103,1129,1157,1183,1218,682]
noncomputable def Qb:List Nat:=[95,142,499,649,733,820,985,1019,1074,1102,1128,1156,1182,1217,681]
noncomputable def Qy:List Nat:=[74,81,93,114,140,492,497,635,647,726,731,804,811,818,978,983,1004,1017,1046,1072,1093,1100,1121,1126,1147,1154,1175,1180,1201,1215,152,353,368,375,394,399,404,409,473,478,615,620,856,861,875,896,915,936,943,950,964,1031,1229,1236,1243,1250,1255,1262,1269,1274,1281,1288,1293,1298,1303,1308,1313,1318,1325,1332,1337,1344,1351,1356,1363,1368,1373,1378,1383]
noncomputable def OS (c:Nat):Nat:=Qo.getD c 0
noncomputable def wH (f:Nat):Nat:=Qy.getD f 0
noncomputable def zA:Data→Option (Array Value×Nat) | .seq xs n=>some (xs,n) | _=>none
noncomputable def u8:Data→Option FuncData | .func f=>some f | _=>none
noncomputable def FY:Data→Option ClassData | .cls c=>some c | _=>none
noncomputable def N2:Value→Option (Int×Tok) | .int i t=>some (i,t) | _=>none
noncomputable def JN:Value→Option (PySem.Str×Tok) | .str i t=>some (i,t) | _=>none
theorem zD {d:Data} {p:Array Value×Nat} (e:zA d=some p):d=.seq p.1 p.2:=by
 induction d with
 | seq a b=>rw [← az e]
 | _=>exact nn e
theorem E3 {d:Data} {p:FuncData} (e:u8 d=some p):d=.func p:=by
 induction d with
 | func a=>exact aw Data.func (az e)
 | _=>exact nn e
theorem H1 {d:Data} {p:ClassData} (e:FY d=some p):d=.cls p:=by
 induction d with
 | cls a=>exact aw Data.cls (az e)
 | _=>exact nn e
theorem Mc {d:Value} {p:Int×Tok} (e:N2 d=some p):d=.int p.1 p.2:=by
 induction d with
 | int a b=>rw [← az e]
 | _=>exact nn e
theorem EI {d:Value} {p:PySem.Str×Tok} (e:JN d=some p):d=.str p.1 p.2:=by
 induction d with
 | str a b=>rw [← az e]
 | _=>exact nn e
noncomputable def jd (i:Nat):PySem.Str:=mM.getD i Str.empty
noncomputable def zZ (K:Frag) (ca fi:Nat) (HZ:List Nat) (ms:List (Nat×Nat)):Bool:=
 (clsIn K ca).any (·.hasDict)&&(findIn K (.ref ca) "__getattribute__"==some (some (.builtin "object.__getattribute__")))&&(findIn K (.ref ca) "__getattr__"==some none) &&
 (findIn K (.ref ca) "__setattr__"==some (some (.builtin "object.__setattr__")))&&plainOver K ca&&makesIn K ca&&(findIn K (.ref ca) "__init__"==some (some (.ref fi)))&&(typeIn K (.ref fi)==some (.type "function")) &&
 (findIn K (.ref ca) "__class__"==some (some (.builtin "object.__class__")))&&(mroIn K ca (.type "object")==some true)&&!(Value.ref ca==.ref 682)&&(subIn K (.ref ca) (.ref 682)==some false) &&
 (HZ.all fun a=>findIn K (.ref ca) (jd a)==some none) &&
 (ms.all fun p=>(findIn K (.ref ca) (jd p.1)==some (some (.ref (wH p.2))))&&(typeIn K (.ref (wH p.2))==some (.type "function")))
noncomputable def uE (h:Heap) (x:PySem.Str) (i:Int):Bool:=((h.nsMap mainGlobals x).bind N2).any fun p=>p.1==i
noncomputable def Iy:List String:=["len","sorted","abs","all","isinstance"]
noncomputable def GM:List String:=["tuple","list","dict","set","int","range"]
noncomputable abbrev P5:=Arguments×FuncBody×PySem.Scope
noncomputable def zQ (n:PySem.Str):List Stmt→Option (Arguments×List Stmt×PySem.Scope)
 | []=>none
 | .FunctionDef m a b _ _ _ sc _ _ _::r=>if m=n then some (a,b,sc) else zQ n r
 | _::r=>zQ n r
noncomputable def vP (n:PySem.Str):List Stmt→List Stmt
 | []=>[]
 | .ClassDef m _ _ b _ _ _ _ _ _ _::r=>if m=n then b else vP n r
 | _::r=>vP n r
noncomputable def J5:List (Nat×Nat×PySem.Str):=[(0,0,"__init__"),(1,0,"glyph"),(2,0,"told"),(3,1,"__init__"),(4,1,"told"),(5,2,"__init__"),(6,2,"told"),(7,3,"__init__"),(8,3,"told"),(9,4,"__init__"),(10,4,"told"),(11,5,"__init__"),(12,5,"told"),(13,5,"is_nothing"),(14,6,"__init__"),(15,6,"told"),(16,7,"__init__"),(17,7,"told"),(18,8,"__init__"),(19,8,"told"),(20,9,"__init__"),(21,9,"told"),(22,10,"__init__"),(23,10,"told"),(24,11,"__init__"),(25,11,"told"),(26,12,"__init__"),(27,12,"told"),(28,13,"__init__"),(29,13,"told")]
noncomputable def yC (f:Nat):Option (Arguments×List Stmt×PySem.Scope):=match dy J5 f with
 | some (c,m)=>(match dy jO c with | some n=>zQ m (vP n PySem.Challenge.pw_nz0119_01.main.body) | none=>none)
 | none=>(match dy iY f with | some n=>zQ n PySem.Challenge.pw_nz0119_01.main.body | none=>none)
end
section
noncomputable def PV (ow:List PySem.Str) (o:Option (Arguments×List Stmt×PySem.Scope)):SS:=match o with
 | some (_,b,sc)=>ix tb sc ow b
 | none=>tY
noncomputable def Nj:List (Nat×List PySem.Str):=[(31,[Str.ofString "found"]),(34,[Str.ofString "steps"]),(35,[Str.ofString "line",Str.ofString "seen"]),(36,[Str.ofString "held"]),(39,[Str.ofString "found"]),(44,[Str.ofString "mapping"]),(45,[Str.ofString "sets"]),(46,[Str.ofString "pairs"]),(56,[Str.ofString "found"]),(57,[Str.ofString "table"]),(58,[Str.ofString "found"]),(60,[Str.ofString "found"]),(61,[Str.ofString "found"]),(67,[Str.ofString "features"]),(68,[Str.ofString "found"]),(73,[Str.ofString "rows"]),(74,[Str.ofString "sets"]),(78,[Str.ofString "pen"])]
noncomputable def N4 (f:Nat):List PySem.Str:=(dy Nj f).getD []
noncomputable def aM (f:Nat):Prop:=some (PV (N4 f) (yC f))=(f0 f).map (·.body)
noncomputable def Mw (P:Nat→Prop):Nat→Prop
 | 0=>True
 | n+1=>Mw P n∧P n
theorem GJ {P:Nat→Prop} {f:Nat} (h:Mw P n) (l:f < n):P f:=by
 induction n with
 | zero=>exact absurd l (Nat.not_lt_zero _)
 | succ n ih=>exact (Nat.lt_succ_iff_lt_or_eq.mp l).elim (ih h.1) fun e=>e▸h.2
theorem OL:aM 0:=by exact rfl
theorem Nk:aM 1:=by exact rfl
theorem Oq:aM 2:=by exact rfl
theorem On:aM 3:=by exact rfl
theorem OA:aM 4:=by exact rfl
theorem NY:aM 5:=by exact rfl
theorem N0:aM 6:=by exact rfl
theorem OH:aM 7:=by exact rfl
theorem NK:aM 8:=by exact rfl
theorem N8:aM 9:=by exact rfl
theorem KF:aM 10:=by exact rfl
theorem MM:aM 11:=by exact rfl
theorem JU:aM 12:=by exact rfl
theorem KU:aM 13:=by exact rfl
theorem Mx:aM 14:=by exact rfl
theorem Lm:aM 15:=by exact rfl
theorem Lo:aM 16:=by exact rfl
theorem L2:aM 17:=by exact rfl
theorem Lg:aM 18:=by exact rfl
theorem KQ:aM 19:=by exact rfl
theorem M0:aM 20:=by exact rfl
theorem JA:aM 21:=by exact rfl
theorem KR:aM 22:=by exact rfl
theorem JO:aM 23:=by exact rfl
theorem Mt:aM 24:=by exact rfl
theorem Li:aM 25:=by exact rfl
theorem Lv:aM 26:=by exact rfl
theorem L7:aM 27:=by exact rfl
theorem M3:aM 28:=by exact rfl
theorem Kj:aM 29:=by exact rfl
theorem Mo:aM 30:=by exact rfl
theorem KW:aM 31:=by exact rfl
theorem LH:aM 32:=by exact rfl
theorem Kq:aM 33:=by exact rfl
theorem LK:aM 34:=by exact rfl
theorem Mz:aM 35:=by exact rfl
theorem Kv:aM 36:=by exact rfl
theorem JD:aM 37:=by exact rfl
theorem M2:aM 38:=by exact rfl
theorem J2:aM 39:=by exact rfl
theorem LB:aM 40:=by exact rfl
theorem JL:aM 41:=by exact rfl
theorem JE:aM 42:=by exact rfl
theorem MO:aM 43:=by exact rfl
theorem LT:aM 44:=by exact rfl
theorem J1:aM 45:=by exact rfl
theorem JY:aM 46:=by exact rfl
theorem Mh:aM 47:=by exact rfl
theorem K9:aM 48:=by exact rfl
theorem L8:aM 49:=by exact rfl
theorem Jz:aM 50:=by exact rfl
theorem Ma:aM 51:=by exact rfl
theorem Kl:aM 52:=by exact rfl
theorem J0:aM 53:=by exact rfl
theorem Lc:aM 54:=by exact rfl
theorem Kt:aM 55:=by exact rfl
theorem Jx:aM 56:=by exact rfl
theorem J6:aM 57:=by exact rfl
theorem MH:aM 58:=by exact rfl
theorem JX:aM 59:=by exact rfl
theorem Km:aM 60:=by exact rfl
theorem Ln:aM 61:=by exact rfl
theorem LA:aM 62:=by exact rfl
theorem MI:aM 63:=by exact rfl
theorem LN:aM 64:=by exact rfl
theorem JJ:aM 65:=by exact rfl
theorem LD:aM 66:=by exact rfl
theorem My:aM 67:=by exact rfl
theorem Kk:aM 68:=by exact rfl
theorem MT:aM 69:=by exact rfl
theorem JB:aM 70:=by exact rfl
theorem JC:aM 71:=by exact rfl
theorem Lj:aM 72:=by exact rfl
theorem ME:aM 73:=by exact rfl
theorem MP:aM 74:=by exact rfl
theorem MF:aM 75:=by exact rfl
theorem JV:aM 76:=by exact rfl
theorem L3:aM 77:=by exact rfl
theorem Jy:aM 78:=by exact rfl
theorem Iv:Mw aM 79:=⟨⟨⟨⟨⟨⟨⟨⟨⟨⟨⟨⟨⟨⟨⟨⟨⟨⟨⟨⟨⟨⟨⟨⟨⟨⟨⟨⟨⟨⟨⟨⟨⟨⟨⟨⟨⟨⟨⟨⟨⟨⟨⟨⟨⟨⟨⟨⟨⟨⟨⟨⟨⟨⟨⟨⟨⟨⟨⟨⟨⟨⟨⟨⟨⟨⟨⟨⟨⟨⟨⟨⟨⟨⟨⟨⟨⟨⟨⟨trivial,OL⟩,Nk⟩,Oq⟩,On⟩,OA⟩,NY⟩,N0⟩,OH⟩,NK⟩,N8⟩,KF⟩,MM⟩,JU⟩,KU⟩,Mx⟩,Lm⟩,Lo⟩,L2⟩,Lg⟩,KQ⟩,M0⟩,JA⟩,KR⟩,JO⟩,Mt⟩,Li⟩,Lv⟩,L7⟩,M3⟩,Kj⟩,Mo⟩,KW⟩,LH⟩,Kq⟩,LK⟩,Mz⟩,Kv⟩,JD⟩,M2⟩,J2⟩,LB⟩,JL⟩,JE⟩,MO⟩,LT⟩,J1⟩,JY⟩,Mh⟩,K9⟩,L8⟩,Jz⟩,Ma⟩,Kl⟩,J0⟩,Lc⟩,Kt⟩,Jx⟩,J6⟩,MH⟩,JX⟩,Km⟩,Ln⟩,LA⟩,MI⟩,LN⟩,JJ⟩,LD⟩,My⟩,Kk⟩,MT⟩,JB⟩,JC⟩,Lj⟩,ME⟩,MP⟩,MF⟩,JV⟩,L3⟩,Jy⟩
end
section
noncomputable abbrev Js (f:Nat) (p:Arguments) (sc:PySem.Scope) (d:aG) (xs ys:List PySem.Str):Prop:=
 p.args.map (·.arg)=xs∧p.posonlyargs.isEmpty=true∧p.kwonlyargs.isEmpty=true∧p.vararg.isNone=true∧p.kwarg.isNone=true∧(xs++ys).Nodup∧dM tb xs=some d.params∧dM tb ys=some d.locals∧
 sc.kind=.function∧sc.isCoroutine=false∧sc.isGenerator=false∧(∀ x∈xs++ys,sc.names.lookup x=some .local∨sc.names.lookup x=some .cell)∧(∀ q∈sc.names,q.2≠.free∧(q.2=.local∨q.2=.cell→q.1∈xs++ys))∧
 (∀ r∈d.ref.toList,r∈d.params)∧(d.ref.isNone=true∨gM f=0∨d.dflts.isEmpty=true)∧d.dflts.length≤d.params.length∧(d.fresh=true→f=54∧d.ref.isNone=true)
noncomputable def Ng (f:Nat) (p:Arguments) (sc:PySem.Scope) (d:aG) (xs ys:List PySem.Str):Bool:=decide (Js f p sc d xs ys)
noncomputable def zE (f:Nat):Bool:=((yC f).bind fun q=>(f0 f).map fun d=>Ng f q.1 q.2.2 d (d.params.map jd) (d.locals.map jd)).any id
theorem xF:(List.range 79).all zE=true:=by decide +kernel
theorem KV:∃ p es pe pos sc,yC 54=some (p,[.Return (some (.List es pe)) pos],sc):=⟨_,_,_,_,_,rfl⟩
theorem Gn {f:Nat} {p:Arguments} {d:aG} (hs:yC f=some (p,b,sc)) (hb:ix tb sc (N4 f) b=d.body) {xs ys:List PySem.Str} (h:Js f p sc d xs ys):FA f p b sc (N4 f) d xs ys:=by
 refine ⟨⟨h.1,List.isEmpty_iff.mp h.2.1,List.isEmpty_iff.mp h.2.2.1,Option.isNone_iff_eq_none.mp h.2.2.2.1,Option.isNone_iff_eq_none.mp h.2.2.2.2.1,(cD.mp h.2.2.2.2.2.1).1⟩,h.2.2.2.2.2.2.1,h.2.2.2.2.2.2.2.1,h.2.2.2.2.2.1,hb,h.2.2.2.2.2.2.2.2.1,h.2.2.2.2.2.2.2.2.2.1,h.2.2.2.2.2.2.2.2.2.2.1,h.2.2.2.2.2.2.2.2.2.2.2.1,fun x k hl hk=>(h.2.2.2.2.2.2.2.2.2.2.2.2.1 _ (eB hl)).2 hk,fun x hl=>(h.2.2.2.2.2.2.2.2.2.2.2.2.1 _ (eB hl)).1 rfl,
  fun r hr=>h.2.2.2.2.2.2.2.2.2.2.2.2.2.1 r (by rw [hr];exact .head _),h.2.2.2.2.2.2.2.2.2.2.2.2.2.2.1.imp id (Or.imp id List.isEmpty_iff.mp),h.2.2.2.2.2.2.2.2.2.2.2.2.2.2.2.1,fun hf=>⟨Option.isNone_iff_eq_none.mp (h.2.2.2.2.2.2.2.2.2.2.2.2.2.2.2.2 hf).2,?_⟩⟩
 have hf:=(h.2.2.2.2.2.2.2.2.2.2.2.2.2.2.2.2 hf).1
 obtain ⟨p,es,pe,pos,sc',e⟩:=KV
 rw [hf,e] at hs
 exact ⟨es,pe,pos,(aw (fun q=>q.2.1) (az hs)).symm⟩
theorem GU {f:Nat} (hf:f < 79) {p:Arguments} (e:yC f=some (p,b,sc)):∃ d,f0 f=some d∧FA f p b sc (N4 f) d (d.params.map jd) (d.locals.map jd):=by
 have h:=aY.mp xF f (List.mem_range.mpr hf)
 have hb:=GJ Iv hf
 unfold zE at h
 unfold aM at hb
 rw [e] at h hb
 obtain ⟨x,h,hx⟩:=any_some h
 obtain ⟨d,hd,h⟩:=oE.mp h
 rw [hd] at hb
 exact ⟨d,hd,Gn e (az hb) (bH (h.trans hx))⟩
end
section
noncomputable def pp:Program:=ee.toRowW.prog
noncomputable def Oz (c:Nat):List Nat:=lf c::((dy v8 c).getD []).map (·.2)
noncomputable def s6 (c:Nat):List Addr:=OS c::Qb.getD c 0::(Oz c).flatMap fun f=>[wH f,wH f - 1]
noncomputable def Qn (f:Nat):List Addr:=match f with | 0=>[69] | 7=>[628] | 18=>[1039] | _=>[]
noncomputable def o7 (f:Nat):List Addr:=wH f::(wH f - 1)::Qn f
noncomputable def ni (g:Nat→Obj) (l:List Addr):Frag:=l.map fun a=>(a,g a)
noncomputable def Ft (K:Frag) (c:Nat):Bool:=zZ K (OS c) (wH (lf c)) (fields c) ((dy v8 c).getD [])
noncomputable def E4 (K:Frag) (a:Nat) (vs:List Value):Bool:=((K.lookup a).bind fun o=>zA o.data).any fun p=>p.1.toList==vs
noncomputable def P0 (K:Frag) (f:Nat) (v:Value):Bool:=if f=0 then (v==.ref 69)&&E4 K 69 [.none] else if f=7 then (v==.ref 628)&&E4 K 628 [.bool false] else if f=18 then (v==.ref 1039)&&E4 K 1039 [.none,.none] else v==.none
noncomputable def IW (K:Frag) (f:Nat):Bool:=((K.lookup (wH f)).bind fun o=>u8 o.data).any fun fd=>fd.closure.isEmpty&&(fd.globals==mainGlobals)&&(fd.builtins==builtinsNs)&&codeIn K fd.code fd.qualname&&P0 K f fd.defaults
noncomputable def Jg (l:List Value):Bool:=(two l).any fun p=>((JN p.1).any fun q=>q.1==jd 61)&&(JN p.2).any fun q=>q.1==jd 62
noncomputable def xw (a:Nat) (o:Obj):Bool:=match a with
 | 682=>(FY o.data).isSome&&(o.cls==.type "type")
 | _=>(zA o.data).any fun p=>(o.cls==.type "tuple")&&o.dict.isNone&&o.slots.isEmpty&&Jg p.1.toList
noncomputable def jX (o:Obj):Bool:=match o.data with | .freed=>false | _=>true
noncomputable def EY (K:Frag) (c:Nat):Bool:=(K.all fun p=>jX p.2)&&Ft K c
noncomputable def Dt (K:Frag) (f:Nat):Bool:=(K.all fun p=>jX p.2)&&IW K f
noncomputable def jo (cs fs es:List Nat) (g:Nat→Obj):Bool:=(cs.all fun c=>EY (ni g (s6 c)) c)&&(fs.all fun f=>Dt (ni g (o7 f)) f)&&es.all fun a=>xw a (g a)
noncomputable def wP (g:Nat→Obj) (f:Nat):Option P5:=(u8 (g (wH f)).data).map fun fd=>(fd.params,fd.body,fd.scope)
noncomputable def HF (f:Nat):Option P5:=(yC f).map fun x=>(x.1,.stmts x.2.1,x.2.2)
end
end Nz
namespace Nz
open PySem PySem.W PyProof.Rows
variable {n:Nat}
section
set_option maxHeartbeats 0
noncomputable def Gc (n:Nat) (f:Nat→Obj):Nat→Nat→Nat→BT
 | 0,_,_=>.nil
 | k+1,a,b=>match Nat.blt b n with
  | true=>.node (f b) (Gc n f k (2*a) (a+b)) (Gc n f k (2*a) (2*a+b))
  | false=>.nil
noncomputable def bv (P:Params) (x:String) (t:Nat) (v:Value):DictEntry:=⟨PyData.keyHash P (Str.ofString x),.str (Str.ofString x) t,v⟩
noncomputable def n0 (P:Params):=bv P "__name__" 165 (.str "__main__" 164)
noncomputable def n1 (P:Params):=bv P "__doc__" 166 .none
noncomputable def n2 (P:Params):=bv P "__package__" 167 .none
noncomputable def n3 (P:Params):=bv P "__loader__" 168 (.builtin "__main__.__loader__#opaque")
noncomputable def n4 (P:Params):=bv P "__spec__" 169 .none
noncomputable def n5 (P:Params):=bv P "__annotations__" 170 (.ref 6)
noncomputable def n6 (P:Params):=bv P "__builtins__" 171 (.ref 4)
noncomputable def n7 (P:Params):=bv P "__file__" 173 (.str "/claim/cut.py" 172)
noncomputable def n8 (P:Params):=bv P "__cached__" 174 .none
noncomputable def n9 (P:Params):=bv P "__name__" 165 (.str "joinedhand.charmap" 251)
noncomputable def kX (P:Params):=bv P "_wall" 193 (.ref 21)
noncomputable def k9 (P:Params):=bv P "Variations" 250 (.ref 57)
noncomputable def Qx (P:Params):=bv P "__name__" 165 (.str "joinedhand.classdefs" 304)
noncomputable def lq (P:Params):=bv P "CharMap" 303 (.ref 96)
noncomputable def Qf (P:Params):=bv P "__name__" 165 (.str "joinedhand.coverage" 372)
noncomputable def lM (P:Params):=bv P "ClassDef" 365 (.ref 143)
noncomputable def lL (P:Params):=bv P "turned_classes" 371 (.ref 152)
noncomputable def O9 (P:Params):=bv P "__name__" 165 (.str "joinedhand.contexts" 444)
noncomputable def mj (P:Params):=bv P "Coverage" 428 (.ref 190)
noncomputable def mF (P:Params):=bv P "coverage_of" 437 (.ref 201)
noncomputable def mn (P:Params):=bv P "turned_coverage" 443 (.ref 206)
noncomputable def mT (P:Params):=bv P "BY_GLYPHS" 447 (.int 1 446)
noncomputable def mU (P:Params):=bv P "BY_CLASSES" 449 (.int 2 448)
noncomputable def mW (P:Params):=bv P "BY_COVERAGES" 451 (.int 3 450)
noncomputable def mX (P:Params):=bv P "Rule" 500 (.ref 237)
noncomputable def nN (P:Params):=bv P "Contexts" 560 (.ref 278)
noncomputable def OP (P:Params):=bv P "told_row" 566 (.ref 287)
noncomputable def nA (P:Params):=bv P "told_row_contexts" 567 (.ref 287)
noncomputable def nt (P:Params):=bv P "tests_of" 573 (.ref 292)
noncomputable def Qg (P:Params):=bv P "__name__" 165 (.str "joinedhand.closure" 643)
noncomputable def oP (P:Params):=bv P "rule_tests" 585 (.ref 299)
noncomputable def oq (P:Params):=bv P "rules_at" 591 (.ref 304)
noncomputable def oC (P:Params):=bv P "with_lookups" 597 (.ref 309)
noncomputable def oO (P:Params):=bv P "all_in" 606 (.ref 316)
noncomputable def oi (P:Params):=bv P "cut_by_glyphs" 612 (.ref 321)
noncomputable def oz (P:Params):=bv P "cut_by_classes" 618 (.ref 326)
noncomputable def oU (P:Params):=bv P "cut_by_coverages" 624 (.ref 331)
noncomputable def oQ (P:Params):=bv P "cut_context" 632 (.ref 338)
noncomputable def oI (P:Params):=bv P "fits" 642 (.ref 345)
noncomputable def oK (P:Params):=bv P "CONTEXT_KINDS" 647 (.ref 346)
noncomputable def oB (P:Params):=bv P "named_lookups" 657 (.ref 353)
noncomputable def oJ (P:Params):=bv P "is_met" 663 (.ref 358)
noncomputable def o5 (P:Params):=bv P "is_fitted" 669 (.ref 363)
noncomputable def ox (P:Params):=bv P "made_by_ligature" 675 (.ref 368)
noncomputable def Qh (P:Params):=bv P "__name__" 165 (.str "joinedhand.cursive" 755)
noncomputable def pG (P:Params):=bv P "made_by" 685 (.ref 375)
noncomputable def ph (P:Params):=bv P "begun_by" 691 (.ref 380)
noncomputable def pw (P:Params):=bv P "nested_steps" 708 (.ref 387)
noncomputable def pH (P:Params):=bv P "follow_step" 721 (.ref 394)
noncomputable def pB (P:Params):=bv P "follow_all" 727 (.ref 399)
noncomputable def pK (P:Params):=bv P "closure_of" 733 (.ref 404)
noncomputable def pg (P:Params):=bv P "closure" 739 (.ref 409)
noncomputable def pE (P:Params):=bv P "told_anchor" 748 (.ref 416)
noncomputable def pt (P:Params):=bv P "told_marks" 754 (.ref 421)
noncomputable def P9 (P:Params):=bv P "__name__" 165 (.str "joinedhand.ligature" 814)
noncomputable def pQ (P:Params):=bv P "Cursive" 813 (.ref 462)
noncomputable def pY (P:Params):=bv P "begins_with" 823 (.ref 473)
noncomputable def Pc (P:Params):=bv P "__name__" 165 (.str "joinedhand.marks" 865)
noncomputable def sf (P:Params):=bv P "told_row" 566 (.ref 514)
noncomputable def si (P:Params):=bv P "live_rows" 829 (.ref 478)
noncomputable def qw (P:Params):=bv P "Ligature" 864 (.ref 500)
noncomputable def qW (P:Params):=bv P "classes_of" 872 (.ref 509)
noncomputable def qK (P:Params):=bv P "told_row_marks" 879 (.ref 514)
noncomputable def qS (P:Params):=bv P "has_anchor" 885 (.ref 519)
noncomputable def so (P:Params):=bv P "told_by_glyph" 896 (.ref 526)
noncomputable def su (P:Params):=bv P "MarkBase" 934 (.ref 550)
noncomputable def sN (P:Params):=bv P "MarkComponent" 971 (.ref 576)
noncomputable def P3 (P:Params):=bv P "__name__" 165 (.str "joinedhand.pair" 1010)
noncomputable def t9 (P:Params):=bv P "MarkMark" 1009 (.ref 604)
noncomputable def tM (P:Params):=bv P "pair_told" 1018 (.ref 615)
noncomputable def uh (P:Params):=bv P "moves_second" 1024 (.ref 620)
noncomputable def uO (P:Params):=bv P "PairGlyphs" 1070 (.ref 650)
noncomputable def Qj (P:Params):=bv P "__name__" 165 (.str "joinedhand.reverse" 1117)
noncomputable def v3 (P:Params):=bv P "PairClasses" 1116 (.ref 682)
noncomputable def PP (P:Params):=bv P "__name__" 165 (.str "joinedhand.single" 1158)
noncomputable def xJ (P:Params):=bv P "Reverse" 1157 (.ref 708)
noncomputable def xT (P:Params):=bv P "Single" 1194 (.ref 734)
noncomputable def yA (P:Params):=bv P "Multiple" 1229 (.ref 760)
noncomputable def P6 (P:Params):=bv P "__name__" 165 (.str "joinedhand.values" 1265)
noncomputable def Ay (P:Params):=bv P "Alternate" 1264 (.ref 786)
noncomputable def AL (P:Params):=bv P "Value" 1315 (.ref 821)
noncomputable def P4 (P:Params):=bv P "__name__" 165 (.str "joinedhand.cutting" 1351)
noncomputable def CJ (P:Params):=bv P "Adjust" 1350 (.ref 847)
noncomputable def CO (P:Params):=bv P "turned_row" 1358 (.ref 856)
noncomputable def CL (P:Params):=bv P "turned_keys" 1364 (.ref 861)
noncomputable def CK (P:Params):=bv P "turned_mapping" 1375 (.ref 868)
noncomputable def CM (P:Params):=bv P "cut_single" 1386 (.ref 875)
noncomputable def Fx (P:Params):=bv P "cut_multiple" 1394 (.ref 882)
noncomputable def DD (P:Params):=bv P "cut_alternate" 1402 (.ref 889)
noncomputable def D5 (P:Params):=bv P "cut_ligature" 1415 (.ref 896)
noncomputable def Do (P:Params):=bv P "cut_reverse" 1421 (.ref 901)
noncomputable def EJ (P:Params):=bv P "cut_adjust" 1429 (.ref 908)
noncomputable def ET (P:Params):=bv P "cut_pair" 1442 (.ref 915)
noncomputable def FE (P:Params):=bv P "cut_cursive" 1450 (.ref 922)
noncomputable def C4 (P:Params):=bv P "cut_marks" 1460 (.ref 929)
noncomputable def Fd (P:Params):=bv P "cut_substitution" 1469 (.ref 936)
noncomputable def F2 (P:Params):=bv P "cut_position" 1478 (.ref 943)
noncomputable def FF (P:Params):=bv P "renumbered" 1487 (.ref 950)
noncomputable def F9 (P:Params):=bv P "marked_rows" 1495 (.ref 957)
noncomputable def Qv (P:Params):=bv P "__name__" 165 (.str "joinedhand.font" 1549)
noncomputable def sV (P:Params):=bv P "is_idle" 1503 (.ref 964)
noncomputable def sX (P:Params):=bv P "USE_SET" 1507 (.int 16 1506)
noncomputable def td (P:Params):=bv P "Lookup" 1548 (.ref 986)
noncomputable def O4 (P:Params):=bv P "__name__" 165 (.str "joinedhand.gdef" 1611)
noncomputable def uW (P:Params):=bv P "Font" 1603 (.ref 1020)
noncomputable def vM (P:Params):=bv P "layout_told" 1610 (.ref 1031)
noncomputable def IH (P:Params):=bv P "__name__" 165 (.str "joinedhand.layout" 1681)
noncomputable def wk (P:Params):=bv P "Gdef" 1680 (.ref 1075)
noncomputable def x8 (P:Params):=bv P "LangSys" 1720 (.ref 1103)
noncomputable def BY (P:Params):=bv P "Script" 1759 (.ref 1129)
noncomputable def Eb (P:Params):=bv P "Feature" 1797 (.ref 1157)
noncomputable def PM (P:Params):=bv P "__name__" 165 (.str "joinedhand.metrics" 1837)
noncomputable def IF (P:Params):=bv P "Layout" 1836 (.ref 1183)
noncomputable def O5 (P:Params):=bv P "__name__" 165 (.str "joinedhand.mirror" 1906)
noncomputable def Mn (P:Params):=bv P "Metrics" 1889 (.ref 1218)
noncomputable def JT (P:Params):=bv P "advance" 1897 (.ref 1229)
noncomputable def Ka (P:Params):=bv P "bearing" 1905 (.ref 1236)
noncomputable def La (P:Params):=bv P "lone_pairs" 1913 (.ref 1243)
noncomputable def PQ (P:Params):=bv P "__name__" 165 (.str "joinedhand.subset" 1935)
noncomputable def N9 (P:Params):=bv P "side_rows" 1919 (.ref 1250)
noncomputable def NE (P:Params):=bv P "mirror_pairs" 1925 (.ref 1255)
noncomputable def OG (P:Params):=bv P "mirror_table" 1934 (.ref 1262)
noncomputable def OI (P:Params):=bv P "BLANK" 1938 (.int 32 1937)
noncomputable def Of (P:Params):=bv P "wanted_codes" 1948 (.ref 1269)
noncomputable def Nq (P:Params):=bv P "cut_variations" 1954 (.ref 1274)
noncomputable def N7 (P:Params):=bv P "first_glyphs" 1966 (.ref 1281)
noncomputable def OC (P:Params):=bv P "numbers_of" 1975 (.ref 1288)
noncomputable def Om (P:Params):=bv P "cut_charmap" 1981 (.ref 1293)
noncomputable def NA (P:Params):=bv P "cut_metrics" 1987 (.ref 1298)
noncomputable def N1 (P:Params):=bv P "cut_gdef" 1993 (.ref 1303)
noncomputable def NX (P:Params):=bv P "cut_lookup" 1999 (.ref 1308)
noncomputable def NO (P:Params):=bv P "moved_lookup" 2005 (.ref 1313)
noncomputable def Oe (P:Params):=bv P "cut_layout" 2011 (.ref 1318)
noncomputable def Pv (P:Params):=bv P "__name__" 165 (.str "law_nz0119_01" 2037)
noncomputable def Pk (P:Params):=bv P "cut_kern" 2022 (.ref 1325)
noncomputable def PA (P:Params):=bv P "kept_glyphs" 2030 (.ref 1332)
noncomputable def O2 (P:Params):=bv P "subset" 2036 (.ref 1337)
noncomputable def Pw (P:Params):=bv P "_law_draw" 2051 (.ref 1344)
noncomputable def Pa (P:Params):=bv P "_law_layout" 2060 (.ref 1351)
noncomputable def PW (P:Params):=bv P "_law_rows" 2066 (.ref 1356)
noncomputable def PB (P:Params):=bv P "_law_lookup" 2077 (.ref 1363)
noncomputable def PR (P:Params):=bv P "_law_closed" 2083 (.ref 1368)
noncomputable def PX (P:Params):=bv P "_law_left" 2089 (.ref 1373)
noncomputable def Pm (P:Params):=bv P "_law_gsub_holds" 2095 (.ref 1378)
noncomputable def PU (P:Params):=bv P "law" 2101 (.ref 1383)
noncomputable def O8 (P:Params):List (List DictEntry):=[[n0 P,n1 P,n2 P,n3 P,n4 P,n5 P,n6 P,n7 P,n8 P],
 [n9 P,n1 P,n2 P,n3 P,n4 P,n5 P,n6 P,n7 P,n8 P,kX P,k9 P],
 [Qx P,n1 P,n2 P,n3 P,n4 P,n5 P,n6 P,n7 P,n8 P,kX P,k9 P,lq P],
 [Qf P,n1 P,n2 P,n3 P,n4 P,n5 P,n6 P,n7 P,n8 P,kX P,k9 P,lq P,lM P,lL P],
 [O9 P,n1 P,n2 P,n3 P,n4 P,n5 P,n6 P,n7 P,n8 P,kX P,k9 P,lq P,lM P,lL P,mj P,mF P,mn P,mT P],
 [O9 P,n1 P,n2 P,n3 P,n4 P,n5 P,n6 P,n7 P,n8 P,kX P,k9 P,lq P,lM P,lL P,mj P,mF P,mn P,mT P,mU P,mW P,mX P],
 [O9 P,n1 P,n2 P,n3 P,n4 P,n5 P,n6 P,n7 P,n8 P,kX P,k9 P,lq P,lM P,lL P,mj P,mF P,mn P,mT P,mU P,mW P,mX P,nN P,OP P,nA P,nt P],
 [Qg P,n1 P,n2 P,n3 P,n4 P,n5 P,n6 P,n7 P,n8 P,kX P,k9 P,lq P,lM P,lL P,mj P,mF P,mn P,mT P,mU P,mW P,mX P,nN P,OP P,nA P,nt P,oP P,oq P,oC P,oO P,oi P,oz P,oU P,oQ P,oI P,oK P,oB P,oJ P,o5 P,ox P],
 [Qh P,n1 P,n2 P,n3 P,n4 P,n5 P,n6 P,n7 P,n8 P,kX P,k9 P,lq P,lM P,lL P,mj P,mF P,mn P,mT P,mU P,mW P,mX P,nN P,OP P,nA P,nt P,oP P,oq P,oC P,oO P,oi P,oz P,oU P,oQ P,oI P,oK P,oB P,oJ P,o5 P,ox P,pG P,ph P,pw P,pH P,pB P,pK P,pg P,pE P,pt P],
 [P9 P,n1 P,n2 P,n3 P,n4 P,n5 P,n6 P,n7 P,n8 P,kX P,k9 P,lq P,lM P,lL P,mj P,mF P,mn P,mT P,mU P,mW P,mX P,nN P,OP P,nA P,nt P,oP P,oq P,oC P,oO P,oi P,oz P,oU P,oQ P,oI P,oK P,oB P,oJ P,o5 P,ox P,pG P,ph P,pw P,pH P,pB P,pK P,pg P,pE P,pt P,pQ P,pY P],
 [Pc P,n1 P,n2 P,n3 P,n4 P,n5 P,n6 P,n7 P,n8 P,kX P,k9 P,lq P,lM P,lL P,mj P,mF P,mn P,mT P,mU P,mW P,mX P,nN P,sf P,nA P,nt P,oP P,oq P,oC P,oO P,oi P,oz P,oU P,oQ P,oI P,oK P,oB P,oJ P,o5 P,ox P,pG P,ph P,pw P,pH P,pB P,pK P,pg P,pE P,pt P,pQ P,pY P,si P,qw P,qW P,qK P,qS P],
 [Pc P,n1 P,n2 P,n3 P,n4 P,n5 P,n6 P,n7 P,n8 P,kX P,k9 P,lq P,lM P,lL P,mj P,mF P,mn P,mT P,mU P,mW P,mX P,nN P,sf P,nA P,nt P,oP P,oq P,oC P,oO P,oi P,oz P,oU P,oQ P,oI P,oK P,oB P,oJ P,o5 P,ox P,pG P,ph P,pw P,pH P,pB P,pK P,pg P,pE P,pt P,pQ P,pY P,si P,qw P,qW P,qK P,qS P,so P,su P],
 [Pc P,n1 P,n2 P,n3 P,n4 P,n5 P,n6 P,n7 P,n8 P,kX P,k9 P,lq P,lM P,lL P,mj P,mF P,mn P,mT P,mU P,mW P,mX P,nN P,sf P,nA P,nt P,oP P,oq P,oC P,oO P,oi P,oz P,oU P,oQ P,oI P,oK P,oB P,oJ P,o5 P,ox P,pG P,ph P,pw P,pH P,pB P,pK P,pg P,pE P,pt P,pQ P,pY P,si P,qw P,qW P,qK P,qS P,so P,su P,sN P],
 [P3 P,n1 P,n2 P,n3 P,n4 P,n5 P,n6 P,n7 P,n8 P,kX P,k9 P,lq P,lM P,lL P,mj P,mF P,mn P,mT P,mU P,mW P,mX P,nN P,sf P,nA P,nt P,oP P,oq P,oC P,oO P,oi P,oz P,oU P,oQ P,oI P,oK P,oB P,oJ P,o5 P,ox P,pG P,ph P,pw P,pH P,pB P,pK P,pg P,pE P,pt P,pQ P,pY P,si P,qw P,qW P,qK P,qS P,so P,su P,sN P,t9 P,tM P,uh P],
 [P3 P,n1 P,n2 P,n3 P,n4 P,n5 P,n6 P,n7 P,n8 P,kX P,k9 P,lq P,lM P,lL P,mj P,mF P,mn P,mT P,mU P,mW P,mX P,nN P,sf P,nA P,nt P,oP P,oq P,oC P,oO P,oi P,oz P,oU P,oQ P,oI P,oK P,oB P,oJ P,o5 P,ox P,pG P,ph P,pw P,pH P,pB P,pK P,pg P,pE P,pt P,pQ P,pY P,si P,qw P,qW P,qK P,qS P,so P,su P,sN P,t9 P,tM P,uh P,uO P],
 [Qj P,n1 P,n2 P,n3 P,n4 P,n5 P,n6 P,n7 P,n8 P,kX P,k9 P,lq P,lM P,lL P,mj P,mF P,mn P,mT P,mU P,mW P,mX P,nN P,sf P,nA P,nt P,oP P,oq P,oC P,oO P,oi P,oz P,oU P,oQ P,oI P,oK P,oB P,oJ P,o5 P,ox P,pG P,ph P,pw P,pH P,pB P,pK P,pg P,pE P,pt P,pQ P,pY P,si P,qw P,qW P,qK P,qS P,so P,su P,sN P,t9 P,tM P,uh P,uO P,v3 P],
 [PP P,n1 P,n2 P,n3 P,n4 P,n5 P,n6 P,n7 P,n8 P,kX P,k9 P,lq P,lM P,lL P,mj P,mF P,mn P,mT P,mU P,mW P,mX P,nN P,sf P,nA P,nt P,oP P,oq P,oC P,oO P,oi P,oz P,oU P,oQ P,oI P,oK P,oB P,oJ P,o5 P,ox P,pG P,ph P,pw P,pH P,pB P,pK P,pg P,pE P,pt P,pQ P,pY P,si P,qw P,qW P,qK P,qS P,so P,su P,sN P,t9 P,tM P,uh P,uO P,v3 P,xJ P],
 [PP P,n1 P,n2 P,n3 P,n4 P,n5 P,n6 P,n7 P,n8 P,kX P,k9 P,lq P,lM P,lL P,mj P,mF P,mn P,mT P,mU P,mW P,mX P,nN P,sf P,nA P,nt P,oP P,oq P,oC P,oO P,oi P,oz P,oU P,oQ P,oI P,oK P,oB P,oJ P,o5 P,ox P,pG P,ph P,pw P,pH P,pB P,pK P,pg P,pE P,pt P,pQ P,pY P,si P,qw P,qW P,qK P,qS P,so P,su P,sN P,t9 P,tM P,uh P,uO P,v3 P,xJ P,xT P],
 [PP P,n1 P,n2 P,n3 P,n4 P,n5 P,n6 P,n7 P,n8 P,kX P,k9 P,lq P,lM P,lL P,mj P,mF P,mn P,mT P,mU P,mW P,mX P,nN P,sf P,nA P,nt P,oP P,oq P,oC P,oO P,oi P,oz P,oU P,oQ P,oI P,oK P,oB P,oJ P,o5 P,ox P,pG P,ph P,pw P,pH P,pB P,pK P,pg P,pE P,pt P,pQ P,pY P,si P,qw P,qW P,qK P,qS P,so P,su P,sN P,t9 P,tM P,uh P,uO P,v3 P,xJ P,xT P,yA P],
 [P6 P,n1 P,n2 P,n3 P,n4 P,n5 P,n6 P,n7 P,n8 P,kX P,k9 P,lq P,lM P,lL P,mj P,mF P,mn P,mT P,mU P,mW P,mX P,nN P,sf P,nA P,nt P,oP P,oq P,oC P,oO P,oi P,oz P,oU P,oQ P,oI P,oK P,oB P,oJ P,o5 P,ox P,pG P,ph P,pw P,pH P,pB P,pK P,pg P,pE P,pt P,pQ P,pY P,si P,qw P,qW P,qK P,qS P,so P,su P,sN P,t9 P,tM P,uh P,uO P,v3 P,xJ P,xT P,yA P,Ay P],
 [P6 P,n1 P,n2 P,n3 P,n4 P,n5 P,n6 P,n7 P,n8 P,kX P,k9 P,lq P,lM P,lL P,mj P,mF P,mn P,mT P,mU P,mW P,mX P,nN P,sf P,nA P,nt P,oP P,oq P,oC P,oO P,oi P,oz P,oU P,oQ P,oI P,oK P,oB P,oJ P,o5 P,ox P,pG P,ph P,pw P,pH P,pB P,pK P,pg P,pE P,pt P,pQ P,pY P,si P,qw P,qW P,qK P,qS P,so P,su P,sN P,t9 P,tM P,uh P,uO P,v3 P,xJ P,xT P,yA P,Ay P,AL P],
 [P4 P,n1 P,n2 P,n3 P,n4 P,n5 P,n6 P,n7 P,n8 P,kX P,k9 P,lq P,lM P,lL P,mj P,mF P,mn P,mT P,mU P,mW P,mX P,nN P,sf P,nA P,nt P,oP P,oq P,oC P,oO P,oi P,oz P,oU P,oQ P,oI P,oK P,oB P,oJ P,o5 P,ox P,pG P,ph P,pw P,pH P,pB P,pK P,pg P,pE P,pt P,pQ P,pY P,si P,qw P,qW P,qK P,qS P,so P,su P,sN P,t9 P,tM P,uh P,uO P,v3 P,xJ P,xT P,yA P,Ay P,AL P,CJ P,CO P,CL P,CK P,CM P],
 [P4 P,n1 P,n2 P,n3 P,n4 P,n5 P,n6 P,n7 P,n8 P,kX P,k9 P,lq P,lM P,lL P,mj P,mF P,mn P,mT P,mU P,mW P,mX P,nN P,sf P,nA P,nt P,oP P,oq P,oC P,oO P,oi P,oz P,oU P,oQ P,oI P,oK P,oB P,oJ P,o5 P,ox P,pG P,ph P,pw P,pH P,pB P,pK P,pg P,pE P,pt P,pQ P,pY P,si P,qw P,qW P,qK P,qS P,so P,su P,sN P,t9 P,tM P,uh P,uO P,v3 P,xJ P,xT P,yA P,Ay P,AL P,CJ P,CO P,CL P,CK P,CM P,Fx P,DD P,D5 P,Do P,EJ P,ET P,FE P,C4 P,Fd P,F2 P,FF P,F9 P],
 [Qv P,n1 P,n2 P,n3 P,n4 P,n5 P,n6 P,n7 P,n8 P,kX P,k9 P,lq P,lM P,lL P,mj P,mF P,mn P,mT P,mU P,mW P,mX P,nN P,sf P,nA P,nt P,oP P,oq P,oC P,oO P,oi P,oz P,oU P,oQ P,oI P,oK P,oB P,oJ P,o5 P,ox P,pG P,ph P,pw P,pH P,pB P,pK P,pg P,pE P,pt P,pQ P,pY P,si P,qw P,qW P,qK P,qS P,so P,su P,sN P,t9 P,tM P,uh P,uO P,v3 P,xJ P,xT P,yA P,Ay P,AL P,CJ P,CO P,CL P,CK P,CM P,Fx P,DD P,D5 P,Do P,EJ P,ET P,FE P,C4 P,Fd P,F2 P,FF P,F9 P,sV P,sX P,td P],
 [O4 P,n1 P,n2 P,n3 P,n4 P,n5 P,n6 P,n7 P,n8 P,kX P,k9 P,lq P,lM P,lL P,mj P,mF P,mn P,mT P,mU P,mW P,mX P,nN P,sf P,nA P,nt P,oP P,oq P,oC P,oO P,oi P,oz P,oU P,oQ P,oI P,oK P,oB P,oJ P,o5 P,ox P,pG P,ph P,pw P,pH P,pB P,pK P,pg P,pE P,pt P,pQ P,pY P,si P,qw P,qW P,qK P,qS P,so P,su P,sN P,t9 P,tM P,uh P,uO P,v3 P,xJ P,xT P,yA P,Ay P,AL P,CJ P,CO P,CL P,CK P,CM P,Fx P,DD P,D5 P,Do P,EJ P,ET P,FE P,C4 P,Fd P,F2 P,FF P,F9 P,sV P,sX P,td P,uW P,vM P],
 [IH P,n1 P,n2 P,n3 P,n4 P,n5 P,n6 P,n7 P,n8 P,kX P,k9 P,lq P,lM P,lL P,mj P,mF P,mn P,mT P,mU P,mW P,mX P,nN P,sf P,nA P,nt P,oP P,oq P,oC P,oO P,oi P,oz P,oU P,oQ P,oI P,oK P,oB P,oJ P,o5 P,ox P,pG P,ph P,pw P,pH P,pB P,pK P,pg P,pE P,pt P,pQ P,pY P,si P,qw P,qW P,qK P,qS P,so P,su P,sN P,t9 P,tM P,uh P,uO P,v3 P,xJ P,xT P,yA P,Ay P,AL P,CJ P,CO P,CL P,CK P,CM P,Fx P,DD P,D5 P,Do P,EJ P,ET P,FE P,C4 P,Fd P,F2 P,FF P,F9 P,sV P,sX P,td P,uW P,vM P,wk P],
 [IH P,n1 P,n2 P,n3 P,n4 P,n5 P,n6 P,n7 P,n8 P,kX P,k9 P,lq P,lM P,lL P,mj P,mF P,mn P,mT P,mU P,mW P,mX P,nN P,sf P,nA P,nt P,oP P,oq P,oC P,oO P,oi P,oz P,oU P,oQ P,oI P,oK P,oB P,oJ P,o5 P,ox P,pG P,ph P,pw P,pH P,pB P,pK P,pg P,pE P,pt P,pQ P,pY P,si P,qw P,qW P,qK P,qS P,so P,su P,sN P,t9 P,tM P,uh P,uO P,v3 P,xJ P,xT P,yA P,Ay P,AL P,CJ P,CO P,CL P,CK P,CM P,Fx P,DD P,D5 P,Do P,EJ P,ET P,FE P,C4 P,Fd P,F2 P,FF P,F9 P,sV P,sX P,td P,uW P,vM P,wk P,x8 P],
 [IH P,n1 P,n2 P,n3 P,n4 P,n5 P,n6 P,n7 P,n8 P,kX P,k9 P,lq P,lM P,lL P,mj P,mF P,mn P,mT P,mU P,mW P,mX P,nN P,sf P,nA P,nt P,oP P,oq P,oC P,oO P,oi P,oz P,oU P,oQ P,oI P,oK P,oB P,oJ P,o5 P,ox P,pG P,ph P,pw P,pH P,pB P,pK P,pg P,pE P,pt P,pQ P,pY P,si P,qw P,qW P,qK P,qS P,so P,su P,sN P,t9 P,tM P,uh P,uO P,v3 P,xJ P,xT P,yA P,Ay P,AL P,CJ P,CO P,CL P,CK P,CM P,Fx P,DD P,D5 P,Do P,EJ P,ET P,FE P,C4 P,Fd P,F2 P,FF P,F9 P,sV P,sX P,td P,uW P,vM P,wk P,x8 P,BY P],
 [IH P,n1 P,n2 P,n3 P,n4 P,n5 P,n6 P,n7 P,n8 P,kX P,k9 P,lq P,lM P,lL P,mj P,mF P,mn P,mT P,mU P,mW P,mX P,nN P,sf P,nA P,nt P,oP P,oq P,oC P,oO P,oi P,oz P,oU P,oQ P,oI P,oK P,oB P,oJ P,o5 P,ox P,pG P,ph P,pw P,pH P,pB P,pK P,pg P,pE P,pt P,pQ P,pY P,si P,qw P,qW P,qK P,qS P,so P,su P,sN P,t9 P,tM P,uh P,uO P,v3 P,xJ P,xT P,yA P,Ay P,AL P,CJ P,CO P,CL P,CK P,CM P,Fx P,DD P,D5 P,Do P,EJ P,ET P,FE P,C4 P,Fd P,F2 P,FF P,F9 P,sV P,sX P,td P,uW P,vM P,wk P,x8 P,BY P,Eb P],
 [PM P,n1 P,n2 P,n3 P,n4 P,n5 P,n6 P,n7 P,n8 P,kX P,k9 P,lq P,lM P,lL P,mj P,mF P,mn P,mT P,mU P,mW P,mX P,nN P,sf P,nA P,nt P,oP P,oq P,oC P,oO P,oi P,oz P,oU P,oQ P,oI P,oK P,oB P,oJ P,o5 P,ox P,pG P,ph P,pw P,pH P,pB P,pK P,pg P,pE P,pt P,pQ P,pY P,si P,qw P,qW P,qK P,qS P,so P,su P,sN P,t9 P,tM P,uh P,uO P,v3 P,xJ P,xT P,yA P,Ay P,AL P,CJ P,CO P,CL P,CK P,CM P,Fx P,DD P,D5 P,Do P,EJ P,ET P,FE P,C4 P,Fd P,F2 P,FF P,F9 P,sV P,sX P,td P,uW P,vM P,wk P,x8 P,BY P,Eb P,IF P],
 [O5 P,n1 P,n2 P,n3 P,n4 P,n5 P,n6 P,n7 P,n8 P,kX P,k9 P,lq P,lM P,lL P,mj P,mF P,mn P,mT P,mU P,mW P,mX P,nN P,sf P,nA P,nt P,oP P,oq P,oC P,oO P,oi P,oz P,oU P,oQ P,oI P,oK P,oB P,oJ P,o5 P,ox P,pG P,ph P,pw P,pH P,pB P,pK P,pg P,pE P,pt P,pQ P,pY P,si P,qw P,qW P,qK P,qS P,so P,su P,sN P,t9 P,tM P,uh P,uO P,v3 P,xJ P,xT P,yA P,Ay P,AL P,CJ P,CO P,CL P,CK P,CM P,Fx P,DD P,D5 P,Do P,EJ P,ET P,FE P,C4 P,Fd P,F2 P,FF P,F9 P,sV P,sX P,td P,uW P,vM P,wk P,x8 P,BY P,Eb P,IF P,Mn P,JT P,Ka P,La P],
 [PQ P,n1 P,n2 P,n3 P,n4 P,n5 P,n6 P,n7 P,n8 P,kX P,k9 P,lq P,lM P,lL P,mj P,mF P,mn P,mT P,mU P,mW P,mX P,nN P,sf P,nA P,nt P,oP P,oq P,oC P,oO P,oi P,oz P,oU P,oQ P,oI P,oK P,oB P,oJ P,o5 P,ox P,pG P,ph P,pw P,pH P,pB P,pK P,pg P,pE P,pt P,pQ P,pY P,si P,qw P,qW P,qK P,qS P,so P,su P,sN P,t9 P,tM P,uh P,uO P,v3 P,xJ P,xT P,yA P,Ay P,AL P,CJ P,CO P,CL P,CK P,CM P,Fx P,DD P,D5 P,Do P,EJ P,ET P,FE P,C4 P,Fd P,F2 P,FF P,F9 P,sV P,sX P,td P,uW P,vM P,wk P,x8 P,BY P,Eb P,IF P,Mn P,JT P,Ka P,La P,N9 P,NE P,OG P,OI P,Of P,Nq P,N7 P,OC P,Om P,NA P,N1 P,NX P,NO P,Oe P],
 [Pv P,n1 P,n2 P,n3 P,n4 P,n5 P,n6 P,n7 P,n8 P,kX P,k9 P,lq P,lM P,lL P,mj P,mF P,mn P,mT P,mU P,mW P,mX P,nN P,sf P,nA P,nt P,oP P,oq P,oC P,oO P,oi P,oz P,oU P,oQ P,oI P,oK P,oB P,oJ P,o5 P,ox P,pG P,ph P,pw P,pH P,pB P,pK P,pg P,pE P,pt P,pQ P,pY P,si P,qw P,qW P,qK P,qS P,so P,su P,sN P,t9 P,tM P,uh P,uO P,v3 P,xJ P,xT P,yA P,Ay P,AL P,CJ P,CO P,CL P,CK P,CM P,Fx P,DD P,D5 P,Do P,EJ P,ET P,FE P,C4 P,Fd P,F2 P,FF P,F9 P,sV P,sX P,td P,uW P,vM P,wk P,x8 P,BY P,Eb P,IF P,Mn P,JT P,Ka P,La P,N9 P,NE P,OG P,OI P,Of P,Nq P,N7 P,OC P,Om P,NA P,N1 P,NX P,NO P,Oe P,Pk P,PA P,O2 P,Pw P,Pa P,PW P,PB P,PR P,PX P,Pm P,PU P]]
noncomputable def PJ:List (Int×Nat):=[(1,20),(5,27),(25,67),(41,106),(60,151),(63,158),(86,200),(91,205),(97,212),(110,247),(134,286),(137,291),(141,298),(145,303),(153,308),(161,315),(166,320),(173,325),(183,330),(190,337),(197,344),(205,352),(212,357),(214,362),(216,367),(218,374),(228,379),(232,386),(244,393),(254,398),(266,403),(273,408),(278,415),(280,420),(283,427),(300,472),(302,477),(308,484),(317,508),(319,513),(322,518),(324,525),(331,532),(339,560),(353,586),(362,614),(364,619),(366,626),(378,660),(394,692),(406,718),(413,744),(420,770),(428,796),(441,831),(449,855),(454,860),(456,867),(463,874),(470,881),(472,888),(474,895),(482,900),(487,907),(489,914),(500,921),(502,928),(509,935),(519,942),(527,949),(533,956),(537,963),(553,970),(565,996),(581,1030),(584,1037),(607,1085),(615,1113),(625,1139),(633,1167),(645,1193),(659,1228),(661,1235),(664,1242),(666,1249),(668,1254),(673,1261),(681,1268),(688,1273),(701,1280),(710,1287),(715,1292),(721,1297),(724,1302),(729,1307),(732,1312),(736,1317),(745,1324),(752,1331),(754,1336),(763,1343),(778,1350),(780,1355),(788,1362),(795,1367),(805,1372),(810,1377),(817,1382)]
noncomputable def Qc (es:List DictEntry):Obj:=⟨.type "dict",none,.dict es.toArray es.length,#[]⟩
noncomputable def eU (l:List (Int×Nat)):Obj:=⟨.none,none,.fields (l.flatMap fun x=>[.int x.1 0,.int 0 0,.ref x.2]).toArray,#[]⟩
noncomputable def Qq:Obj:=⟨.type "code",none,.fields #[.str "<module>" 182,.str "<module>" 183,.str "/claim/cut.py" 184,.int 1 0,.int 0 0,.int 0 0,.int 0 0,.int 0 0,.ref 11,.bool false,.int 181 0,.ref 12,.none,.none,.none,.none,.int 185 0,.int 1 0,.str "/claim/cut.py" 186],#[]⟩
noncomputable def Qr:Obj:=⟨.type "frame",none,.plain,#[some (.ref 13),some (.ref 3),some (.ref 3),none,some (.str "__main__" 164),none,some (.ref 0)]⟩
noncomputable def CH:PySem.Env:={ scope:=pp.main.scope,locals:=mainNs,globals:=mainNs,cells:=[],code:=.ref 13,frame:=some 14 }
noncomputable def cc:Code:=.body (behindTheImports pp) CH
noncomputable def M9 (a b:Nat):List Stmt:=(pp.main.body.drop a).take b
noncomputable def Qs (j:Nat) (P:Params):List DictEntry:=(O8 P).getD j []
noncomputable def FN (j m:Nat) (f:Nat→Obj) (P:Params) (i:Nat):Obj:=match i with
 | 0=>boot_o_0 P | 1=>boot_o_1 P | 2=>boot_o_2 P | 3=>Qc (Qs j P) | 4=>boot_o_4 P | 5=>boot_o_5 P | 6=>boot_o_6 P | 7=>boot_o_7 P | 8=>boot_o_8 P | 9=>boot_o_9 P | 10=>boot_o_10 P
 | 11=>⟨.type "tuple",none,.seq #[] 0,#[]⟩ | 12=>eU (PJ.take m) | 13=>Qq | 14=>Qr
 | i=>f i
noncomputable def SP (n toks j m:Nat) (f:Nat→Obj) (w:World) (os:OsState):SharedT:={ tree:=Gc n (FN j m f w.params) 12 1 0,n,life:={},gens:=#[],drawn:={},toks,os }
noncomputable def res (N n toks j m a b:Nat) (pos:Pos) (w:World) (os:OsState) (f:Nat→Obj):Option (Flow×SharedT×Code×Pos):=
 PySem.W.Fast.tw10110043849684766642 PySem.W.Fast.tw14364793385576792824 pp w 11 (some (.ref 6)) 1 N (SP n toks j m f w os) (piecesOf (M9 a b) CH cc pos [topFrame ⟨0,0,0,0⟩])
noncomputable def nx (n:Nat) (r:Option (Flow×SharedT×Code×Pos)) (f:Nat→Obj) (i:Nat):Obj:=match Nat.blt i n with
 | true=>f i
 | false=>match r with | some (_,s,_)=>(s.tree.get i).getD default | none=>default
noncomputable def old (k:Nat) (g:Nat→Obj):Nat→List Obj
 | 0=>[]
 | m+1=>g k::old (k+1) g m
noncomputable def look (n:Nat) (x:Flow×SharedT×Code×Pos):=(x.1,x.2.1.n,x.2.1.toks,x.2.1.life,x.2.1.gens,x.2.1.drawn,x.2.1.os,x.2.2,old 0 (fun i=>(x.2.1.tree.get i).getD default) 15,old 15 (fun i=>(x.2.1.tree.get i).getD default) n)
noncomputable def tg (x:Flow×SharedT×Code×Pos) (i:Nat):Obj:=(x.2.1.tree.get i).getD default
noncomputable def bb (N n toks j m a b:Nat) (pos:Pos) (n' toks' m':Nat) (pos':Pos) (cs fs es:List Nat):Prop:=∀ (w:World) (os:OsState) (f:Nat→Obj),
 (res N n toks j m a b pos w os f).map (fun x=>(look (n - 15) x,jo cs fs es (tg x),fs.map (wP (tg x))))=some ((.next,n',toks',{},#[],{},os,(cc,pos'),old 0 (FN (j+1) m' f w.params) 15,old 15 f (n - 15)),true,fs.map HF)
theorem Lz:bb 366 15 187 0 0 0 4 ⟨0,0,0,0⟩ 62 253 2 ⟨24,0,24,8⟩ [] [] []:=by
 intro w os f
 kernel_rfl
theorem KN:bb 323 62 253 1 2 4 2 ⟨24,0,24,8⟩ 101 306 3 ⟨40,0,40,8⟩ [0] [0,1,2] []:=by
 intro w os f
 kernel_rfl
theorem LI:bb 383 101 306 2 3 6 3 ⟨40,0,40,8⟩ 153 374 5 ⟨62,0,62,8⟩ [1] [3,4,30] []:=by
 intro w os f
 kernel_rfl
theorem Kg:bb 396 153 374 3 5 9 5 ⟨62,0,62,8⟩ 207 448 8 ⟨94,0,94,9⟩ [] [] []:=by
 intro w os f
 kernel_rfl
theorem L5:bb 309 207 448 4 8 14 3 ⟨94,0,94,9⟩ 242 501 9 ⟨97,0,109,16⟩ [] [] []:=by
 intro w os f
 kernel_rfl
theorem MV:bb 387 242 501 5 9 17 4 ⟨97,0,109,16⟩ 293 574 12 ⟨137,0,140,41⟩ [] [] []:=by
 intro w os f
 kernel_rfl
theorem MU:bb 396 293 574 6 12 21 16 ⟨137,0,140,41⟩ 369 676 25 ⟨216,0,217,111⟩ [] [31,32] [346]:=by
 intro w os f
 kernel_rfl
theorem Lu:bb 284 369 676 7 25 37 11 ⟨216,0,217,111⟩ 422 757 34 ⟨282,0,282,8⟩ [] [33,34,35,36,37] []:=by
 intro w os f
 kernel_rfl
theorem LM:bb 382 422 757 8 34 48 3 ⟨282,0,282,8⟩ 474 824 36 ⟨300,0,301,37⟩ [] [38] []:=by
 intro w os f
 kernel_rfl
theorem MD:bb 374 474 824 9 36 51 7 ⟨300,0,301,37⟩ 520 886 41 ⟨322,0,323,68⟩ [2] [5,6,39] []:=by
 intro w os f
 kernel_rfl
theorem GE:bb 289 520 886 10 41 58 2 ⟨322,0,323,68⟩ 555 935 43 ⟨331,0,338,98⟩ [] [] []:=by
 intro w os f
 kernel_rfl
theorem Ie:bb 253 555 935 11 43 60 1 ⟨331,0,338,98⟩ 581 972 44 ⟨339,0,352,66⟩ [] [] []:=by
 intro w os f
 kernel_rfl
theorem IJ:bb 320 581 972 12 44 61 4 ⟨339,0,352,66⟩ 621 1025 47 ⟨364,0,365,69⟩ [] [40,41] []:=by
 intro w os f
 kernel_rfl
theorem HJ:bb 287 621 1025 13 47 65 1 ⟨364,0,365,69⟩ 655 1071 48 ⟨366,0,377,47⟩ [3] [7,8] []:=by
 intro w os f
 kernel_rfl
theorem Gv:bb 294 655 1071 14 48 66 2 ⟨366,0,377,47⟩ 687 1119 49 ⟨393,0,393,8⟩ [] [] [682]:=by
 intro w os f
 kernel_rfl
theorem GI:bb 264 687 1119 15 49 68 2 ⟨393,0,393,8⟩ 713 1160 50 ⟨405,0,405,8⟩ [] [] []:=by
 intro w os f
 kernel_rfl
theorem Hi:bb 251 713 1160 16 50 70 1 ⟨405,0,405,8⟩ 739 1195 51 ⟨406,0,412,100⟩ [4] [9,10] []:=by
 intro w os f
 kernel_rfl
theorem Ik:bb 251 739 1195 17 51 71 1 ⟨406,0,412,100⟩ 765 1230 52 ⟨413,0,419,109⟩ [] [] []:=by
 intro w os f
 kernel_rfl
theorem Hr:bb 260 765 1230 18 52 72 2 ⟨413,0,419,109⟩ 791 1267 53 ⟨427,0,427,8⟩ [] [] []:=by
 intro w os f
 kernel_rfl
theorem GY:bb 291 791 1267 19 53 74 1 ⟨427,0,427,8⟩ 826 1316 54 ⟨428,0,440,42⟩ [5] [11,12,13] []:=by
 intro w os f
 kernel_rfl
theorem Gu:bb 378 826 1316 20 54 75 6 ⟨428,0,440,42⟩ 876 1387 59 ⟨463,0,469,26⟩ [] [42,43,44] []:=by
 intro w os f
 kernel_rfl
theorem H6:bb 372 876 1387 21 59 81 12 ⟨463,0,469,26⟩ 958 1496 71 ⟨533,0,536,67⟩ [] [45,46,47,48,49] []:=by
 intro w os f
 kernel_rfl
theorem HM:bb 314 958 1496 22 71 93 5 ⟨533,0,536,67⟩ 991 1551 73 ⟨564,0,564,8⟩ [6] [14,15,50] []:=by
 intro w os f
 kernel_rfl
theorem Iw:bb 388 991 1551 23 73 98 3 ⟨564,0,564,8⟩ 1032 1613 75 ⟨583,0,583,8⟩ [7] [16,17,51] []:=by
 intro w os f
 kernel_rfl
theorem Hb:bb 366 1032 1613 24 75 101 2 ⟨583,0,583,8⟩ 1080 1683 76 ⟨606,0,606,8⟩ [8] [18,19] []:=by
 intro w os f
 kernel_rfl
theorem H7:bb 256 1080 1683 25 76 103 1 ⟨606,0,606,8⟩ 1108 1721 77 ⟨607,0,614,52⟩ [9] [20,21] []:=by
 intro w os f
 kernel_rfl
theorem GA:bb 255 1108 1721 26 77 104 1 ⟨607,0,614,52⟩ 1134 1760 78 ⟨615,0,624,86⟩ [10] [22,23] []:=by
 intro w os f
 kernel_rfl
theorem GC:bb 256 1134 1760 27 78 105 1 ⟨615,0,624,86⟩ 1162 1798 79 ⟨625,0,632,46⟩ [11] [24,25] []:=by
 intro w os f
 kernel_rfl
theorem Ib:bb 264 1162 1798 28 79 106 2 ⟨625,0,632,46⟩ 1188 1839 80 ⟨644,0,644,8⟩ [12] [26,27] []:=by
 intro w os f
 kernel_rfl
theorem Gs:bb 390 1188 1839 29 80 108 5 ⟨644,0,644,8⟩ 1244 1914 84 ⟨664,0,665,177⟩ [13] [28,29,52,53,54] []:=by
 intro w os f
 kernel_rfl
theorem H8:bb 383 1244 1914 30 84 113 15 ⟨664,0,665,177⟩ 1319 2012 97 ⟨736,0,744,105⟩ [] [55,56,57,58,59,60,61,62,63,64,65,66,67] []:=by
 intro w os f
 kernel_rfl
theorem Ha:bb 328 1319 2012 31 97 128 12 ⟨736,0,744,105⟩ 1384 2102 108 ⟨817,0,853,32⟩ [] [68,69,70,71,72,73,74,75,76,77,78] []:=by
 intro w os f
 kernel_rfl
end
section
set_option maxHeartbeats 0
noncomputable def Ls:Stmt→List PySem.Str
 | .FunctionDef n ..=>[n]
 | .ClassDef n ..=>[n]
 | .Assign [.Name x _] _ _=>[x]
 | _=>[]
noncomputable def qL:Program:=view pp [139]
noncomputable def qJ:List PySem.Str:=(pp.main.body.take 139).flatMap Ls
noncomputable def Pp (s:Shared):Bool:=recOk (RowW.records ee.toRowW) s
noncomputable def Ei (h:Heap):Bool:=
 h.isNs mainGlobals&&h.isNs builtinsNs&&(h.get? sysModules).isSome&&uE h "BLANK" 32&&uE h "USE_SET" 16&&(h.nsMap mainGlobals "CONTEXT_KINDS"==some (.ref 346)) &&
 (iY.all fun p=>h.nsMap mainGlobals p.2==some (.ref (wH p.1)))&&(jO.all fun p=>h.nsMap mainGlobals p.2==some (.ref (OS p.1))) &&
 (Iy.all fun b=>(h.nsMap mainGlobals (Str.ofString b)==none)&&(h.nsMap builtinsNs (Str.ofString b)==some (.builtin b))) &&
 (GM.all fun b=>(h.nsMap mainGlobals (Str.ofString b)==none)&&(h.nsMap builtinsNs (Str.ofString b)==some (.type b)))
noncomputable def pM (w:World) (s:Shared):=(staticsOk (importedModules pp.main.body) (boot_heap w.params) s.heap&&namesBound pp s.heap&&gensDone s&&laidKept (boot_heap w.params) s.heap,openSeen qL qJ (importedModules pp.main.body) Pp true s,Ei s.heap)
theorem PN (w:World) (os:OsState) (f:Nat→Obj):(res 328 1319 2012 31 97 128 12 ⟨736,0,744,105⟩ w os f).map (fun x=>pM w x.2.1.abs)=some (true,openGood qL qJ,true):=by kernel_rfl
end
section
set_option maxHeartbeats 0
noncomputable def sz:Nat→Nat
 | 0=>0
 | k+1=>sz k+sz k+1
theorem ED {k a b:Nat} {f:Nat→Obj} (h:b < n):Gc n f (k+1) a b=.node (f b) (Gc n f k (2*a) (a+b)) (Gc n f k (2*a) (2*a+b)):=by
 show (match Nat.blt b n with | true=>_ | false=>_)=_
 rw [Nat.blt_eq.mpr h]
theorem Mq (v:Obj) (l r:BT) (q:Nat):(BT.node v l r).get (2*q+1)=l.get q:=by
 rw [BT.get_node,av (Nat.succ_ne_zero _),au (by rw [Nat.mul_add_mod]),Nat.mul_add_div (Nat.succ_pos 1)];rfl
theorem Mi (v:Obj) (l r:BT) (q:Nat):(BT.node v l r).get (2*q+2)=r.get q:=by
 rw [BT.get_node,av (Nat.succ_ne_zero _),av (by rw [Nat.mul_add_mod];decide),Nat.mul_add_div (Nat.succ_pos 1)];rfl
theorem PO (a b q:Nat):a+b+2*a*q=b+a*(2*q+1):=by
 rw [Nat.mul_comm 2 a,Nat.mul_assoc,Nat.add_comm a b,Nat.add_assoc,Nat.add_comm a];rfl
theorem Pr (a b q:Nat):2*a+b+2*a*q=b+a*(2*q+2):=by
 rw [Nat.mul_comm 2 a,Nat.mul_assoc,Nat.add_comm (a*2) b,Nat.add_assoc,Nat.add_comm (a*2),← Nat.mul_add]
theorem Mv (i:Nat):i=0∨(∃ q,i=2*q+1)∨∃ q,i=2*q+2:=by
 induction i with
 | zero=>exact .inl rfl
 | succ i ih=>exact ih.elim (fun h=>.inr (.inl ⟨0,by rw [h]⟩)) fun h=>h.elim (fun ⟨q,e⟩=>.inr (.inr ⟨q,by rw [e]⟩)) fun ⟨q,e⟩=>.inr (.inl ⟨q+1,by rw [e];rfl⟩)
theorem zT {q s:Nat} (h:2*q+1 < s+s+1):q < s:=Nat.lt_of_mul_lt_mul_left (a:=2) (by rw [Nat.two_mul s];exact Nat.lt_of_succ_lt_succ h)
theorem HI {f:Nat→Obj} {k:Nat}:∀ {a b i:Nat},i < sz k→b+a*i < n→(Gc n f k a b).get i=some (f (b+a*i)):=by
 induction k with
 | zero=>exact fun h=>absurd h (Nat.not_lt_zero _)
 | succ k ih=>
  intro a b i h hn
  rw [ED (eD (Nat.le_add_right _ _) hn)]
  rcases Mv i with e | ⟨q,e⟩ | ⟨q,e⟩
  ·rw [e,BT.get_node];rfl
  ·rw [e] at hn h ⊢
   rw [Mq,← PO] at *
   exact ih (zT h) hn
  ·rw [e] at hn h ⊢
   rw [Mi,← Pr] at *
   exact ih (zT (Nat.lt_of_succ_lt h)) hn
theorem zK {f:Nat→Obj} {i:Nat} (hn:n≤4000) (h:i < n):(Gc n f 12 1 0).get i=some (f i):=by
 have e:0+1*i=i:=by rw [Nat.zero_add,Nat.one_mul]
 have:=HI (n:=n) (f:=f) (k:=12) (a:=1) (b:=0) (i:=i) (gB h (aH hn (by decide))) (by rw [e];exact h)
 rw [e] at this;exact this
theorem yt (g:Nat→Obj):∀ (m k i:Nat),i < m→(old k g m)[i]? = some (g (k+i))
 | 0,_,_,h=>absurd h (Nat.not_lt_zero _)
 | m+1,k,0,h=>rfl
 | m+1,k,i+1,h=>by
  show (old (k+1) g m)[i]? = _
  rw [yt g m (k+1) i (Nat.lt_of_succ_lt_succ h),Nat.add_assoc,Nat.add_comm 1 i]
theorem yx {g g':Nat→Obj} {m k:Nat} (e:old k g m=old k g' m) {i:Nat} (h1:k≤i) (h2:i < k+m):g i=g' i:=by
 have hm:=Nat.sub_lt_left_of_lt_add h1 h2
 have a:=yt g m k (i - k) hm
 rw [e,yt g' m k (i - k) hm,Nat.add_sub_cancel' h1] at a
 exact (az a).symm
theorem K1 {t t':BT} {life:Life} (h:∀ i,i < n→(t.get i).getD default=(t'.get i).getD default):absHeap t n life=absHeap t' n life:=by
 unfold absHeap BT.list
 congr 2
 exact iD fun i hi=>h i (List.mem_range.mp hi)
theorem Aq {j m:Nat} {P:Params} (g:Nat→Obj) {i:Nat} (h:15≤i):FN j m g P i=g i:=by
 obtain ⟨k,rfl⟩:=Nat.exists_eq_add_of_le' h
 rfl
theorem Ck {j m:Nat} {P:Params} (g g':Nat→Obj) {i:Nat} (h:i < 15):FN j m g P i=FN j m g' P i:=
 yx (g:=FN j m g P) (g':=FN j m g' P) (k:=0) (m:=15) rfl (ck _) (by rw [Nat.zero_add];exact h)
noncomputable abbrev Pj (N:Nat) (s:Shared) (w:World) (a b:Nat) (pos:Pos):=segRun treeTable pp w 11 (some (.ref 6)) 1 N s (piecesOf (M9 a b) CH cc pos [topFrame ⟨0,0,0,0⟩])
inductive Nn (n:Nat) (f:Nat→Obj) (cs fs es:List Nat) (g:Nat→Obj):Prop
 | mk (old:∀ i,i < n→g i=f i) (facts:jo cs fs es g=true) (bods:fs.map (wP g)=fs.map HF)
noncomputable def above (n:Nat) (cs fs es:List Nat):Bool:=(cs.all fun c=>(s6 c).all fun x=>Nat.ble n x)&&(fs.all fun f=>(o7 f).all fun x=>Nat.ble n x)&&es.all fun x=>Nat.ble n x
theorem DS {g g':Nat→Obj} {l:List Addr} {p:Nat→Prop} (h:∀ i,p i→g i=g' i) (hl:∀ x∈l,p x):ni g l=ni g' l:=iD fun x hx=>by rw [h x (hl x hx)]
theorem m6 {α:Type} {l:List α} {p q:α→Bool} (h:∀ x∈l,p x=q x):l.all p=l.all q:=by
 induction l with
 | nil=>rfl
 | cons a l ih=>rw [List.all_cons,List.all_cons,h a (.head _),ih fun x m=>h x (.tail _ m)]
theorem w1 {g g':Nat→Obj} {p:Nat→Prop} {cs fs es:List Nat} (h:∀ i,p i→g i=g' i) (hc:∀ c∈cs,∀ x∈s6 c,p x) (hf:∀ f∈fs,∀ x∈o7 f,p x) (he:∀ x∈es,p x):jo cs fs es g=jo cs fs es g'∧fs.map (wP g)=fs.map (wP g'):=by
 constructor
 ·have q1:(cs.all fun c=>EY (ni g (s6 c)) c)=cs.all fun c=>EY (ni g' (s6 c)) c:=m6 fun c m=>by rw [DS h (hc c m)]
  have q2:(fs.all fun f=>Dt (ni g (o7 f)) f)=fs.all fun f=>Dt (ni g' (o7 f)) f:=m6 fun f m=>by rw [DS h (hf f m)]
  have q3:(es.all fun a=>xw a (g a))=es.all fun a=>xw a (g' a):=m6 fun x m=>by rw [h x (he x m)]
  unfold jo
  rw [q1,q2,q3]
 ·exact iD fun f m=>by unfold wP;rw [h _ (hf f m _ (.head _))]
theorem yu {cs fs es:List Nat} (h:above n cs fs es=true):(∀ c∈cs,∀ x∈s6 c,n≤x)∧(∀ f∈fs,∀ x∈o7 f,n≤x)∧∀ x∈es,n≤x:=by
 unfold above at h
 rw [bC,bC] at h
 exact ⟨fun c hc x hx=>Nat.le_of_ble_eq_true (aY.mp (aY.mp h.1.1 c hc) x hx),fun f hf x hx=>Nat.le_of_ble_eq_true (aY.mp (aY.mp h.1.2 f hf) x hx),fun x hx=>Nat.le_of_ble_eq_true (aY.mp h.2 x hx)⟩
theorem AM {j n' toks' m':Nat} {f:Nat→Obj} {w:World} {os:OsState} {T:BT} (e7:old 0 (fun i=>(T.get i).getD default) 15=old 0 (FN (j+1) m' f w.params) 15) (e8:old 15 (fun i=>(T.get i).getD default) (n - 15)=old 15 f (n - 15)) (hn:15≤n) (hb:n'≤4000) :
  SharedT.abs ⟨T,n',{},#[],{},toks',os⟩=(SP n' toks' (j+1) m' (fun i=>if i < n then f i else (T.get i).getD default) w os).abs:=by
 unfold SP SharedT.abs
 dsimp only
 congr 1
 refine K1 fun i hi=>?_
 rw [zK hb hi]
 show _=FN (j+1) m' _ w.params i
 by_cases h15:i < 15
 ·rw [Ck _ f h15]
  exact yx e7 (ck _) (by rw [Nat.zero_add];exact h15)
 ·rw [Aq _ (Nat.not_lt.mp h15)]
  by_cases hlt:i < n
  ·rw [au hlt]
   exact yx e8 (Nat.not_lt.mp h15) (by rw [Nat.add_sub_cancel' hn];exact hlt)
  ·rw [av hlt]
theorem Bs {s:SharedT} {toks:Nat} {os:OsState} (e1:s.n=n) (e2:s.toks=toks) (e3:s.life={}) (e4:s.gens=#[]) (e5:s.drawn={}) (e6:s.os=os):s=⟨s.tree,n,{},#[],{},toks,os⟩:=by
 cases s;cases e1;cases e2;cases e3;cases e4;cases e5;cases e6;rfl
theorem r5 {N toks j m a b:Nat} {pos:Pos} {n' toks' m':Nat} {pos':Pos} {cs fs es:List Nat} (h:bb N n toks j m a b pos n' toks' m' pos' cs fs es) (hn:15≤n) (hn':n≤n') (hb:n'≤4000) (ha:above n cs fs es=true) (w:World) (os:OsState) (f:Nat→Obj) :
  ∃ g x,res N n toks j m a b pos w os f=some x∧x.2.1.abs=(SP n' toks' (j+1) m' g w os).abs∧Pj N (SP n toks j m f w os).abs w a b pos=some (.next,(SP n' toks' (j+1) m' g w os).abs,cc,pos')∧Nn n f cs fs es g:=by
 obtain ⟨⟨fl,s,c,q⟩,hr,hx⟩:=oE.mp (h w os f)
 have hl:=aw (·.1) hx
 have hg:∀ i,n≤i→tg (fl,s,c,q) i=(fun i=>if i < n then f i else (s.tree.get i).getD default) i:=fun i hi=>(av (Nat.not_lt.mpr hi)).symm
 obtain ⟨a1,a2,a3⟩:=yu ha
 obtain ⟨q1,q2⟩:=w1 (p:=fun i=>n≤i) hg a1 a2 a3
 have key:=(aw SharedT.abs (Bs (s:=s) (aw (·.2.1) hl) (aw (·.2.2.1) hl) (aw (·.2.2.2.1) hl) (aw (·.2.2.2.2.1) hl) (aw (·.2.2.2.2.2.1) hl) (aw (·.2.2.2.2.2.2.1) hl))).trans (AM (w:=w) (aw (·.2.2.2.2.2.2.2.2.1) hl) (aw (·.2.2.2.2.2.2.2.2.2) hl) hn hb)
 refine ⟨_,_,hr,key,?_,fun i hi=>au hi,q1▸aw (·.2.1) hx,q2▸aw (·.2.2) hx⟩
 unfold res at hr
 rw [← PySem.W.Fast.te10110043849684766642,← PySem.W.Fast.te14364793385576792824] at hr
 have hs:=segRun_of hr
 rw [key] at hs
 exact hs.trans (aw (fun y:Flow×Code×Pos=>some (y.1,_,y.2)) (aw (fun y=>(y.1,y.2.2.2.2.2.2.2.1)) hl))
inductive NH (w:World) (s:Shared):Prop
 | mk (h1:(pM w s).1=true) (h2:(pM w s).2.1=openGood qL qJ) (h3:(pM w s).2.2=true)
noncomputable def dN (n toks j m a N:Nat) (pos:Pos) (cs fs es:List Nat):Prop:=∀ (w:World) (os:OsState) (f:Nat→Obj),
 ∃ g,topRun treeTable pp w 11 (some (.ref 6)) N (SP n toks j m f w os).abs (restOf (pp.main.body.drop a) CH cc pos [topFrame ⟨0,0,0,0⟩])=some (SP 1384 2102 32 108 g w os).abs∧NH w (SP 1384 2102 32 108 g w os).abs∧Nn n f cs fs es g
theorem dN.step {N toks j m a b:Nat} {pos:Pos} {n' toks' m' N':Nat} {pos':Pos} {cs fs es cs' fs' es':List Nat} (h:bb N n toks j m a b pos n' toks' m' pos' cs fs es) (t:dN n' toks' (j+1) m' (a+b) N' pos' cs' fs' es')
  (hn:(Nat.ble 15 n&&Nat.ble n n'&&Nat.ble n' 4000&&above n cs fs es)=true) (hu:((cs.all fun c=>(s6 c).all fun x=>Nat.blt x n')&&(fs.all fun f=>(o7 f).all fun x=>Nat.blt x n')&&es.all fun x=>Nat.blt x n')=true):dN n toks j m a (N+N') pos (cs++cs') (fs++fs') (es++es'):=by
 simp only [bC] at hn hu
 obtain ⟨⟨⟨h1,h2⟩,h3⟩,h4⟩:=hn
 intro w os f
 obtain ⟨g,_,_,_,hs,ho,hf,hbd⟩:=r5 h (Nat.le_of_ble_eq_true h1) (Nat.le_of_ble_eq_true h2) (Nat.le_of_ble_eq_true h3) h4 w os f
 obtain ⟨g',hr,he',ho',hf',hbd'⟩:=t w os g
 have hlow:∀ i,i < n'→g i=g' i:=fun i hi=>(ho' i hi).symm
 obtain ⟨q1,q2⟩:=w1 (cs:=cs) (fs:=fs) (es:=es) (p:=fun i=>i < n') hlow (fun c hc x hx=>Nat.blt_eq.mp (aY.mp (aY.mp hu.1.1 c hc) x hx)) (fun f hf x hx=>Nat.blt_eq.mp (aY.mp (aY.mp hu.1.2 f hf) x hx)) (fun x hx=>Nat.blt_eq.mp (aY.mp hu.2 x hx))
 rw [q1] at hf
 rw [q2] at hbd
 refine ⟨g',?_,he',fun i hi=>(ho' i (gB hi (Nat.le_of_ble_eq_true h2))).trans (ho i hi),?_,?_⟩
 ·have e:pp.main.body.drop a=M9 a b++pp.main.body.drop (a+b):=by
   unfold M9
   rw [← List.drop_drop];exact (List.take_append_drop _ _).symm
  rw [e]
  exact piece_app hs hr
 ·unfold jo at hf hf' ⊢
  simp only [List.all_append,bC] at hf hf' ⊢
  exact ⟨⟨⟨hf.1.1,hf'.1.1⟩,hf.1.2,hf'.1.2⟩,hf.2,hf'.2⟩
 ·rw [dJ,dJ,hbd,hbd']
end
section
set_option maxHeartbeats 0
theorem HE (w:World) (os:OsState) (f:Nat→Obj):topRun treeTable pp w 11 (some (.ref 6)) 2 (SP 1384 2102 32 108 f w os).abs ⟨doneF .next,cc,⟨817,0,853,32⟩,[topFrame ⟨0,0,0,0⟩]⟩=some (SP 1384 2102 32 108 f w os).abs:=by
 generalize (SP 1384 2102 32 108 f w os).abs=s
 kernel_rfl
theorem E5:pp.main.body.drop 140=[]:=by kernel_rfl
theorem L4:dN 1319 2012 31 97 128 330 ⟨736,0,744,105⟩ [] [68,69,70,71,72,73,74,75,76,77,78] []:=by
 intro w os f
 obtain ⟨g,x,hr,hx,hs,L⟩:=r5 Ha (by decide) (by decide) (by decide) (by decide +kernel) w os f
 have hl:=PN w os f
 rw [hr,Option.map_some,Option.some.injEq,hx] at hl
 refine ⟨g,?_,⟨aw Prod.fst hl,aw (fun y=>y.2.1) hl,aw (fun y=>y.2.2) hl⟩,L⟩
 have e:pp.main.body.drop 128=M9 128 12++[]:=by
  unfold M9
  rw [← E5,show pp.main.body.drop 140=pp.main.body.drop (128+12) from rfl,← List.drop_drop]
  exact (List.take_append_drop _ _).symm
 rw [e]
 have:=piece_app (N:=2) (rest:=[]) hs (HE w os g)
 exact this
noncomputable def Kz:=dN.step H8 L4 (by decide +kernel) (by decide +kernel)
noncomputable def Mb:=dN.step Gs Kz (by decide +kernel) (by decide +kernel)
noncomputable def Ko:=dN.step Ib Mb (by decide +kernel) (by decide +kernel)
noncomputable def Me:=dN.step GC Ko (by decide +kernel) (by decide +kernel)
noncomputable def JW:=dN.step GA Me (by decide +kernel) (by decide +kernel)
noncomputable def MB:=dN.step H7 JW (by decide +kernel) (by decide +kernel)
noncomputable def JI:=dN.step Hb MB (by decide +kernel) (by decide +kernel)
noncomputable def Lx:=dN.step Iw JI (by decide +kernel) (by decide +kernel)
noncomputable def Kc:=dN.step HM Lx (by decide +kernel) (by decide +kernel)
noncomputable def J9:=dN.step H6 Kc (by decide +kernel) (by decide +kernel)
noncomputable def KY:=dN.step Gu J9 (by decide +kernel) (by decide +kernel)
noncomputable def Lq:=dN.step GY KY (by decide +kernel) (by decide +kernel)
noncomputable def K8:=dN.step Hr Lq (by decide +kernel) (by decide +kernel)
noncomputable def JS:=dN.step Ik K8 (by decide +kernel) (by decide +kernel)
noncomputable def MW:=dN.step Hi JS (by decide +kernel) (by decide +kernel)
noncomputable def JH:=dN.step GI MW (by decide +kernel) (by decide +kernel)
noncomputable def KI:=dN.step Gv JH (by decide +kernel) (by decide +kernel)
noncomputable def KD:=dN.step HJ KI (by decide +kernel) (by decide +kernel)
noncomputable def LO:=dN.step IJ KD (by decide +kernel) (by decide +kernel)
noncomputable def Ml:=dN.step Ie LO (by decide +kernel) (by decide +kernel)
noncomputable def LY:=dN.step GE Ml (by decide +kernel) (by decide +kernel)
noncomputable def Og:=dN.step MD LY (by decide +kernel) (by decide +kernel)
noncomputable def NP:=dN.step LM Og (by decide +kernel) (by decide +kernel)
noncomputable def NR:=dN.step Lu NP (by decide +kernel) (by decide +kernel)
noncomputable def OD:=dN.step MU NR (by decide +kernel) (by decide +kernel)
noncomputable def NF:=dN.step MV OD (by decide +kernel) (by decide +kernel)
noncomputable def NQ:=dN.step L5 NF (by decide +kernel) (by decide +kernel)
noncomputable def Np:=dN.step Kg NQ (by decide +kernel) (by decide +kernel)
noncomputable def Oo:=dN.step LI Np (by decide +kernel) (by decide +kernel)
noncomputable def Nx:=dN.step KN Oo (by decide +kernel) (by decide +kernel)
noncomputable def Ni:=dN.step Lz Nx (by decide +kernel) (by decide +kernel)
theorem Mp:behindTheImports pp=pp.main.body:=by kernel_rfl
theorem Hc (w:World) (os:OsState):topGo treeTable pp w 11 (some (.ref 6)) 12 ⟨boot_heap w.params,Array.mk [],boot_drawn,boot_toks,os⟩ (topStub pp) =
  some ((SP 15 187 0 0 (fun _=>default) w os).abs,⟨denote treeTable (.body (behindTheImports pp) CH),cc,⟨0,0,0,0⟩,[topFrame ⟨0,0,0,0⟩]⟩):=by kernel_rfl
end
end Nz
namespace Nz
open PySem PyProof.Rows PySem.W
variable {n:PySem.Str}
section
noncomputable def Sub (K K':Frag):Prop:=∀ a o,K.lookup a=some o→K'.lookup a=some o
section
variable {K K':Frag} (S:Sub K K')
include S
theorem Iq {ns:Addr} {r:Option Value} (e:nsIn K ns n=some r):nsIn K' ns n=some r:=by
 unfold nsIn at e ⊢
 induction q:K.lookup ns with
 | none=>rw [q] at e;exact nn e
 | some o=>rw [q] at e;rw [S _ _ q];exact e
theorem Dk {v:Value} {r:Option Value} (e:ownIn K n v=some r):ownIn K' n v=some r:=by
 induction v with
 | ref a=>
  unfold ownIn at e ⊢
  dsimp only at e ⊢
  induction q:K.lookup a with
  | none=>rw [q] at e;exact nn e
  | some o=>
   rw [q] at e;rw [S _ _ q]
   obtain ⟨c,d,dat,sl⟩:=o
   induction dat with
   | cls cd=>exact Iq S e
   | _=>exact nn e
 | _=>exact e
theorem yB {l:List Value} {r:Option Value} (e:alongIn K n l=some r):alongIn K' n l=some r:=by
 induction l with
 | nil=>exact e
 | cons c l ih=>
  unfold alongIn at e ⊢
  induction q:ownIn K n c with
  | none=>rw [q] at e;exact nn e
  | some v=>
   rw [q] at e;rw [Dk S q]
   induction v with
   | none=>exact ih e
   | some v=>exact e
theorem eE {t:Value} {r:Option Value} (e:findIn K t n=some r):findIn K' t n=some r:=by
 induction t with
 | ref a=>
  unfold findIn at e ⊢
  dsimp only at e ⊢
  induction q:K.lookup a with
  | none=>rw [q] at e;exact nn e
  | some o=>
   rw [q] at e;rw [S _ _ q]
   obtain ⟨c,d,dat,sl⟩:=o
   induction dat with
   | cls cd=>exact yB S e
   | _=>exact nn e
 | _=>exact e
theorem j7 {v:Value} {r:Value} (e:typeIn K v=some r):typeIn K' v=some r:=by
 unfold typeIn at e ⊢
 induction v with
 | ref a=>
  obtain ⟨o,ho,rfl⟩:=oE.mp e
  dsimp only;rw [S _ _ ho];rfl
 | _=>exact e
theorem rJ {C:Addr} {cd:ClassData} (e:clsIn K C=some cd):clsIn K' C=some cd:=by
 unfold clsIn at e ⊢
 induction q:K.lookup C with
 | none=>rw [q] at e;exact nn e
 | some o=>rw [q] at e;rw [S _ _ q];exact e
theorem wb {C:Addr} {b:Value} {r:Bool} (e:mroIn K C b=some r):mroIn K' C b=some r:=by
 unfold mroIn at e ⊢
 obtain ⟨cd,h1,h2⟩:=kE.mp e
 rw [rJ S h1];exact h2
theorem wU {C:Addr} {b:Value} {r:Bool} (e:subIn K (.ref C) b=some r):subIn K' (.ref C) b=some r:=wb S e
theorem u9 {C:Addr} (e:plainOver K C=true):plainOver K' C=true:=by
 unfold plainOver at e ⊢
 obtain ⟨cd,h1,h2⟩:=any_some e
 rw [rJ S h1];exact h2
theorem vW {v:Value} {r:Option Value} (e:specialIn K v n=some r):specialIn K' v n=some r:=by
 unfold specialIn at e ⊢
 obtain ⟨t,h1,h2⟩:=kE.mp e
 rw [j7 S h1];exact eE S h2
theorem xY {C:Addr} (e:makesIn K C=true):makesIn K' C=true:=by
 unfold makesIn at e ⊢
 induction q:K.lookup C with
 | none=>rw [q] at e;exact bt e
 | some o=>
  rw [q] at e;rw [S _ _ q]
  obtain ⟨c,d,dat,sl⟩:=o
  induction dat with
  | cls cd=>
   obtain ⟨e,e8⟩:=cB.mp e
   obtain ⟨e,e7⟩:=cB.mp e
   refine cB.mpr ⟨cB.mpr ⟨e,bm.mpr (vW S (bm.mp e7))⟩,bm.mpr ?_⟩
   obtain ⟨t,h1,h2⟩:=kE.mp (bm.mp e8)
   refine kE.mpr ⟨t,j7 S h1,?_⟩
   induction t with
   | ref c=>exact wU S h2
   | _=>exact h2
  | _=>exact bt e
end
theorem lJ {g:Nat→Obj} {l:List Addr} {a:Addr} {o:Obj} (e:(ni g l).lookup a=some o):a∈l∧o=g a:=by
 induction l with
 | nil=>exact nn e
 | cons b l ih=>
  unfold ni at e ih
  rw [c6,jb] at e
  induction q:a==b with
  | true=>rw [q] at e;rw [← az e,bm.mp q];exact ⟨.head _,rfl⟩
  | false=>rw [q] at e;obtain ⟨h1,h2⟩:=ih e;exact ⟨.tail _ h1,h2⟩
theorem yf {g:Nat→Obj} {l:List Addr} {a:Addr} (h:a∈l):(ni g l).lookup a=some (g a):=by
 induction l with
 | nil=>exact nomatch h
 | cons b l ih=>
  unfold ni at ih ⊢
  rw [c6,jb]
  induction q:a==b with
  | true=>rw [bm.mp q]
  | false=>exact ih ((aU.mp h).resolve_left (ne_of_beq_false q))
theorem Ac {g:Nat→Obj} {l:List Addr} (h:((ni g l).all fun p=>jX p.2)=true) {a:Addr} (ha:a∈l):jX (g a)=true:=aY.mp h (a,g a) (bo.mpr ⟨a,ha,rfl⟩)
theorem Go {g:Nat→Obj} {l l':List Addr} (h:∀ a∈l,a∈l'):Sub (ni g l) (ni g l'):=fun a o e=>by
 obtain ⟨h1,rfl⟩:=lJ e
 exact yf (h a h1)
noncomputable def JK:List Nat:=[0,1,2,3,4,5,6,7,8,9,10,11,12,13]
noncomputable def DY:List Nat:=[0,1,2,3,4,30,31,32,33,34,35,36,37,38,5,6,39,40,41,7,8,9,10,11,12,13,42,43,44,45,46,47,48,49,14,15,50,16,17,51,18,19,20,21,22,23,24,25,26,27,28,29,52,53,54,55,56,57,58,59,60,61,62,63,64,65,66,67,68,69,70,71,72,73,74,75,76,77,78]
noncomputable def yj:List Addr:=682::JK.flatMap s6
inductive yn (h:Heap):Prop
 | mk (h'1:Heap) (g:Nat→Obj) (keep:∀ b o,h'1.get? b=some o→h.get? b=some o) (glob:Ei h'1=true) (at_:∀ i,15≤i→i < 1384→jX (g i)=true→h'1.get? i=some (g i)) (facts:jo JK DY [346,682] g=true) (bods:DY.map (wP g)=DY.map HF)
theorem yn.keeps {h h':Heap} (x:yn h) (k:∀ b o,h.get? b=some o→h'.get? b=some o):yn h':=by
 obtain ⟨h'1,g,k1,a,b,c,d⟩:=x
 exact ⟨h'1,g,fun b o e=>k b o (k1 b o e),a,b,c,d⟩
noncomputable def L9 (a:Addr):Prop:=a=346
noncomputable def B3 (prog:Program) (w:World) (g:Nat→Obj) (h:Heap) (mg mb:PySem.Str→Option Value):Wd:=
 { prog,w,ca:=OS,fa:=wH,h0:=h,F0:=L9,g:=mainGlobals,b:=builtinsNs,mg,mb,K:=ni g yj,src:=yC,ow:=N4 }
theorem FK (K:Frag):specialIn K (.builtin "object.__class__") "__get__"=some (some (.builtin "getset_descriptor.__get__"))∧takesIn K (.builtin "object.__class__")=some true:=by
 refine ⟨?_,?_⟩
 ·kernel_rfl
 ·kernel_rfl
theorem An {i:Nat} {x:PySem.Str} (h:bp i x):jd i=x:=by
 unfold bp at h
 unfold jd
 rw [g9,h];rfl
noncomputable def Hp (f:Nat):List T:=match f0 f with | some d=>d.dflts | none=>[]
theorem Gk:((List.range 79).all fun f=>f==0||f==7||f==18||(Hp f).isEmpty)=true:=by decide +kernel
theorem J4 {f:Nat} (h:f < 79) (h0:f≠0) (h7:f≠7) (h18:f≠18):Hp f=[]:=by
 have:=aY.mp Gk f (List.mem_range.mpr h)
 simpa [h0,h7,h18] using this
theorem JZ:(pS.all fun p=>(decide (14≤p.2.1)||p.2.2==lf p.2.1)&&decide (p.2.1 < 15))=true:=by decide +kernel
theorem Eo {x:PySem.Str} {c i:Nat} (h:tb.cls x=some (c,i)):(c < 14→i=lf c)∧c < 15:=by
 have:=aY.mp JZ _ (dR (Dg h).1)
 simp only [bC,Bool.or_eq_true,decide_eq_true_eq,bm] at this
 exact ⟨fun hc=>this.1.resolve_left (Nat.not_le.mpr hc),this.2⟩
theorem nQ:((List.range 14).all fun c=>JK.contains c)=true∧((List.range 79).all fun f=>DY.contains f)=true∧(yj.all fun a=>Nat.ble 15 a&&Nat.blt a 1384)=true∧
  (DY.all fun f=>(o7 f).all fun a=>Nat.ble 15 a&&Nat.blt a 1384)=true:=⟨by decide +kernel,by decide +kernel,by decide +kernel,by decide +kernel⟩
theorem wo {a:Nat} (h:(Nat.ble 15 a&&Nat.blt a 1384)=true):15≤a∧a < 1384:=by
 rw [bC] at h
 exact ⟨Nat.le_of_ble_eq_true h.1,Nat.blt_eq.mp h.2⟩
section
variable {prog:Program} {w:World} {g:Nat→Obj} {h:Heap} {mg mb:PySem.Str→Option Value}
theorem D8 {c:Nat} (hc:c < 14) (e:Ft (ni g (s6 c)) c=true):IX (B3 prog w g h mg mb) c:=by
 have S:Sub (ni g (s6 c)) (ni g yj):=Go fun a ha=>List.mem_cons_of_mem _ (List.mem_flatMap.mpr ⟨c,fH.mp (aY.mp nQ.1 c (List.mem_range.mpr hc)),ha⟩)
 unfold Ft zZ at e
 simp only [bC,bm,Bool.not_eq_true',aY] at e
 obtain ⟨⟨⟨⟨⟨⟨⟨⟨⟨⟨⟨⟨⟨e1,e2⟩,e3⟩,e4⟩,e5⟩,e6⟩,e7⟩,e8⟩,e9⟩,e10⟩,e11⟩,e12⟩,e13⟩,e14⟩:=e
 refine ⟨?_,eE S e2,eE S e3,eE S e4,u9 S e5,xY S e6,eE S e7,j7 S e8,eE S e9,wb S e10,e11,wU S e12,fun a x ha hx=>?_,fun m f x hm hx=>?_⟩
 ·obtain ⟨cd,h1,h2⟩:=any_some e1
  exact ⟨cd,rJ S h1,h2⟩
 ·have:=e13 a ha
  rw [An hx] at this
  exact eE S this
 ·have hmem:(m,f)∈(dy v8 c).getD []:=by
   unfold mt at hm
   obtain ⟨l,hl,hm⟩:=kE.mp hm
   rw [hl]
   exact dR hm
  have:=e14 (m,f) hmem
  rw [An hx] at this
  exact ⟨eE S this.1,j7 S this.2⟩
theorem tj {M:Model} {A:Around} {E:Value→Shared→Prop} {s:Shared} {Q:Option (Array Value)→Shared→Prop} (q:Q none s):wpAny M A (seqItems? .none) Q E s:=by
 unfold seqItems?
 exact ac (al (al q))
theorem F7 {K:Frag} {a:Nat} {vs:List Value} (e:E4 K a vs=true):∃ o xs n,K.lookup a=some o∧o.data=.seq xs n∧xs.toList=vs:=by
 obtain ⟨p,h,e⟩:=any_some e
 obtain ⟨o,ho,h⟩:=kE.mp h
 exact ⟨o,p.1,p.2,ho,zD h,bm.mp e⟩
noncomputable def NS (W:Wd) (f:Nat) (v:Value):Prop:=∃ r:Option (Array Value),bR W W.F0 W.h0 (Hp f) (r.getD #[]).toList∧∀ (M:Model) (A:Around) (E:Value→Shared→Prop) (s:Shared) Q,(∀ b o,W.h0.get? b=some o→s.heap.get? b=some o)→Q r s→wpAny M A (seqItems? v) Q E s
theorem yV {W:Wd} {K:Frag} {f:Nat} {v:Value} {a:Addr} {ts:List T} {vs:List Value} (X:K.In W.h0) (e:(v==.ref a&&E4 K a vs)=true) (hd:Hp f=ts) (r:bR W W.F0 W.h0 ts vs):NS W f v:=by
 obtain ⟨hv,hs⟩:=cB.mp e
 obtain ⟨o,xs,n,gg,hdd,hx⟩:=F7 hs
 refine ⟨some xs,by rw [hd];rw [← hx] at r;exact r,fun M A E s Q hk q=>?_⟩
 rw [bm.mp hv]
 unfold seqItems?
 refine ac (wpAny_load (hk _ _ (X _ _ gg)) ?_)
 rw [hdd]
 exact al q
theorem NN {W:Wd} {K:Frag} {f:Nat} {v:Value} (hf:f < 79) (X:K.In W.h0) (e:P0 K f v=true):NS W f v:=by
 by_cases h0:f=0
 ·rw [h0] at e ⊢;exact yV X e rfl (.cons .none .nil)
 by_cases h7:f=7
 ·rw [h7] at e ⊢;exact yV X e rfl (.cons (.bool false) .nil)
 by_cases h18:f=18
 ·rw [h18] at e ⊢;exact yV X e rfl (.cons .none (.cons .none .nil))
 rw [show v=.none from bm.mp (((av h0).trans ((av h7).trans (av h18))).symm.trans e)]
 exact ⟨none,by rw [J4 hf h0 h7 h18];exact .nil,fun M A E s Q hk q=>tj q⟩
theorem G5 (hk:∀ a o,(∃ f,f < 79∧(ni g (o7 f)).lookup a=some o)→h.get? a=some o) {f:Nat} (hf:f < 79) (e:IW (ni g (o7 f)) f=true) (hb:wP g f=HF f) :
  ∃ p b sc,(B3 prog w g h mg mb).src f=some (p,b,sc)∧KX (B3 prog w g h mg mb) f p b sc:=by
 have X:(ni g (o7 f)).In h:=fun a o q=>hk a o ⟨f,hf,q⟩
 have hg:(ni g (o7 f)).lookup (wH f)=some (g (wH f)):=yf (.head _)
 obtain ⟨fd,h1,e⟩:=any_some e
 rw [hg] at h1
 have h1:u8 (g (wH f)).data=some fd:=h1
 unfold wP at hb
 rw [h1] at hb
 obtain ⟨q,hs,hq⟩:=oE.mp hb.symm
 obtain ⟨e,e5⟩:=cB.mp e
 obtain ⟨e,e4⟩:=cB.mp e
 obtain ⟨e,e3⟩:=cB.mp e
 obtain ⟨e1,e2⟩:=cB.mp e
 exact ⟨q.1,q.2.1,q.2.2,hs,_,fd,X _ _ hg,E3 h1,(aw (·.1) hq).symm,(aw (·.2.1) hq).symm,(aw (·.2.2) hq).symm,List.isEmpty_iff.mp e1,bm.mp e2,bm.mp e3,codeRec_of X e4,NN (W:=B3 prog w g h mg mb) hf X e5⟩
theorem Be {l:List Value} (e:Jg l=true):∃ t u,l=[.str (jd 61) t,.str (jd 62) u]:=by
 obtain ⟨p,h,e⟩:=any_some e
 obtain ⟨e1,e2⟩:=cB.mp e
 obtain ⟨q,q1,q2⟩:=any_some e1
 obtain ⟨r,r1,r2⟩:=any_some e2
 exact ⟨q.2,r.2,by rw [xr h,EI q1,EI r1,bm.mp q2,bm.mp r2]⟩
theorem Bt {o:Obj} (e:xw 346 o=true):∃ n t u,o=seqObj "tuple" #[.str (jd 61) t,.str (jd 62) u] n:=by
 obtain ⟨p,h,e⟩:=any_some (show ((zA o.data).any _)=true from e)
 obtain ⟨e,e4⟩:=cB.mp e
 obtain ⟨e,e3⟩:=cB.mp e
 obtain ⟨e1,e2⟩:=cB.mp e
 obtain ⟨t,u,e4⟩:=Be e4
 obtain ⟨c,d,dat,sl⟩:=o
 refine ⟨p.2,t,u,?_⟩
 rw [show c=.type "tuple" from bm.mp e1,show d=none from Option.isNone_iff_eq_none.mp e2,show sl=#[] from Array.isEmpty_iff.mp e3,show dat=_ from zD h,Array.toList_inj.mp (show p.1.toList=Array.toList #[.str (jd 61) t,.str (jd 62) u] from e4)]
theorem Hm {o:Obj} (e:xw 682 o=true):∃ d cd sl,o=⟨.type "type",d,.cls cd,sl⟩:=by
 obtain ⟨e1,e2⟩:=cB.mp (show ((FY o.data).isSome&&(o.cls==.type "type"))=true from e)
 obtain ⟨cd,h⟩:=Option.isSome_iff_exists.mp e1
 obtain ⟨c,d,dat,sl⟩:=o
 exact ⟨d,cd,sl,by rw [show c=_ from bm.mp e2,show dat=_ from H1 h]⟩
theorem t5 {h'1:Heap} {x:PySem.Str} {i:Int} (e:uE h'1 x i=true):∃ t,h'1.nsMap mainGlobals x=some (.int i t):=by
 obtain ⟨p,h,e⟩:=any_some e
 obtain ⟨v,hv,h⟩:=kE.mp h
 exact ⟨p.2,by rw [hv,Mc h,bm.mp e]⟩
set_option tactic.hygienic true in
theorem Le (g1:h.Ns mainGlobals mg) (g2:h.Ns builtinsNs mb) (lim:h.NoLimit) (x:yn h):∃ g,gW (B3 prog w g h mg mb)∧(∀ p,p∈iY→mg p.2=some (.ref (wH p.1)))∧(∃ o,h.get? 346=some o):=by
 obtain ⟨h'1,g,keep,good,at_,facts,bods⟩:=x
 refine ⟨g,?_⟩
 unfold Ei at good
 simp only [bC] at good
 obtain ⟨⟨⟨⟨⟨⟨⟨⟨⟨d1,d2⟩,d3⟩,d5⟩,d6⟩,d7⟩,d8⟩,d9⟩,d10⟩,d11⟩:=good
 unfold jo at facts
 simp only [bC] at facts
 obtain ⟨⟨fC,fF⟩,fE⟩:=facts
 have emg:mg=h'1.nsMap mainGlobals:=g1.eq_nsMap.trans ((Heap.Ns.of_isNs d1).keeps keep).eq_nsMap.symm
 have emb:mb=h'1.nsMap builtinsNs:=g2.eq_nsMap.trans ((Heap.Ns.of_isNs d2).keeps keep).eq_nsMap.symm
 have H:∀ a,(Nat.ble 15 a&&Nat.blt a 1384)=true→jX (g a)=true→h.get? a=some (g a):=fun a e l=>keep _ _ (at_ a (wo e).1 (wo e).2 l)
 obtain ⟨kn,kt,ku,hk⟩:=Bt (aY.mp fE 346 (by decide))
 have hk:h.get? 346=some (seqObj "tuple" #[.str (jd 61) kt,.str (jd 62) ku] kn):=by rw [← hk];exact H 346 (by decide) (by rw [hk];rfl)
 obtain ⟨d682,cd682,s682,o682⟩:=Hm (aY.mp fE 682 (by decide))
 have K:(ni g yj).In h:=fun a o e=>by
  obtain ⟨h1,rfl⟩:=lJ e
  refine H a (aY.mp nQ.2.2.1 a h1) ?_
  rcases aU.mp h1 with rfl | h2
  ·rw [o682];rfl
  ·obtain ⟨c,hc,ha⟩:=List.mem_flatMap.mp h2
   exact Ac (cB.mp (aY.mp fC c hc)).1 ha
 have fns:∀ p,p∈iY→mg p.2=some (.ref (wH p.1)):=fun p hp=>(congrFun emg _).trans (bm.mp (aY.mp d8 p hp))
 have l682:(ni g yj).lookup 682=some (g 682):=yf (.head _)
 rw [o682] at l682
 have sys:∃ o,h.get? sysModules=some o:=by
  induction q:h'1.get? sysModules with
  | none=>rw [q] at d3;exact bt d3
  | some o=>exact ⟨o,keep _ _ q⟩
 refine ⟨⟨g1,g2,lim,fun x t ht=>?_,fun a ha=>?_,sys,K,fun c hc=>D8 hc (cB.mp (aY.mp fC c (fH.mp (aY.mp nQ.1 c (List.mem_range.mpr hc))))).2,(FK _).1,(FK _).2,?_,?_,fun x i r hx=>fns _ (dR (Ek hx).2),fun x c i hx=>?_,fun f hf=>?_,fun x c i hx=>(Eo hx).2,fun b hb=>?_,fun b hb=>?_,?_⟩,fns,_,hk⟩
 ·replace ht:rT x=some t:=ht
  unfold rT at ht
  split at ht
  ·rename_i e;subst e;obtain rfl:=az ht
   obtain ⟨u,hu⟩:=t5 d5
   exact ⟨_,(congrFun emg _).trans hu,.int _ u⟩
  ·split at ht
   ·rename_i e;subst e;obtain rfl:=az ht
    obtain ⟨u,hu⟩:=t5 d6
    exact ⟨_,(congrFun emg _).trans hu,.int _ u⟩
   ·split at ht
    ·rename_i e;subst e;obtain rfl:=az ht
     exact ⟨_,(congrFun emg _).trans (bm.mp d7),.tup (show L9 346 from rfl) hk (by decide) (.cons (.str kt rfl) (.cons (.str ku rfl) .nil))⟩
    ·exact nn ht
 ·obtain rfl:a=346:=ha
  exact ⟨_,hk⟩
 ·show ((ni g yj).lookup 682).map (·.cls)=_
  rw [l682];rfl
 ·refine ⟨cd682,?_⟩
  show clsIn (ni g yj) 682=_
  unfold clsIn
  rw [l682]
 ·have:=aY.mp d9 (c,x) (dR (Dg hx).2)
  exact ⟨(congrFun emg x).trans (bm.mp this),(Eo hx).1⟩
 ·have hm:=fH.mp (aY.mp nQ.2.1 f (List.mem_range.mpr hf))
  refine G5 (fun a o ⟨f',hf',q⟩=>?_) hf (cB.mp (aY.mp fF f hm)).2 (List.map_inj_left.mp bods f hm)
  obtain ⟨h1,rfl⟩:=lJ q
  have hm':=fH.mp (aY.mp nQ.2.1 f' (List.mem_range.mpr hf'))
  exact H a (aY.mp (aY.mp nQ.2.2.2 f' hm') a h1) (Ac (cB.mp (aY.mp fF f' hm')).1 h1)
 ·have:=aY.mp d10 b (by revert b;decide)
  rw [bC,bm,bm] at this
  exact ⟨(congrFun emg _).trans this.1,(congrFun emb _).trans this.2⟩
 ·have:=aY.mp d11 b hb
  rw [bC,bm,bm] at this
  exact ⟨(congrFun emg _).trans this.1,(congrFun emb _).trans this.2⟩
 ·have:=aY.mp d10 "isinstance" (by decide)
  rw [bC,bm,bm] at this
  exact ⟨(congrFun emg _).trans this.1,(congrFun emb _).trans this.2⟩
end
end
end Nz
namespace Nz.Nc
open PySem
variable {n:Nat} {Q:List T→Env→Prop} {ρ:Env} {g:mV} {elt:SE} {C:aC} {xs:List T} {α σ ν κ:Type} {a b base S hs bs:List Int} {rs:List bj} {p:jD} {P:List bj→List Int→List (Int×Int)→List (Int×Int)→List ((Int×Int)×Int)→List ((Int×Int)×Int)→Bool→Prop}
section
@[irreducible] noncomputable def CN (n:Nat):aC:=t6 f0 n
theorem ao {f:Nat} {fd:aG} {ts:List T} {r:Option T} {Q:T→Option T→Prop} (h1:f0 f=some fd) (h2:fd.ref.isSome=r.isSome) (h3:i0 fd.ref fd.params (rS (vI fd) ts fd.dflts) r=some ρ)
  (h:fd.body (CN n) (ρ++c8 fd.locals []) fun fl ρ=>nu fd.ref ρ fun r'=>Q (AR fl) r'):CN (n+1) f ts r Q:=by
 unfold CN at h ⊢
 show fW (f0 f) _
 exact ab h1 ⟨h2,ab h3 h⟩
theorem fX {b:Bool} {p q:Prop} (h1:b=true→p) (h2:b=false→q):bq b p q:=match b,h1,h2 with
 | true,h,_=>h rfl
 | false,_,h=>h rfl
theorem fQ {b:Bool} {p q:Prop} (e:b=false) (h:q):bq b p q:=by rw [e];exact h
theorem ff {b:Bool} {p q:Prop} (e:b=true) (h:p):bq b p q:=by rw [e];exact h
theorem cJ {ok:Env→Prop} {ifs:SB} {acc:List T} (h:Q acc ρ):cb ok g ifs elt C [] ρ acc Q:=by rw [lB];exact h
theorem dU {ok:Env→Prop} {ifs:SB} {x:T} {acc:List T} (h:eI g x ρ fun ρ=>ifs C ρ fun b ρ=>bq b (elt C ρ fun t ρ=>ok ρ∧cb ok g ifs elt C xs ρ (acc++[t]) Q) (ok ρ∧cb ok g ifs elt C xs ρ acc Q)):cb ok g ifs elt C (x::xs) ρ acc Q:=by rw [jw];exact h
theorem mi {ok:Env→Prop} {ifs:SB} {acc ys:List T} (e:xs=ys) (h:cb ok g ifs elt C ys ρ acc Q):cb ok g ifs elt C xs ρ acc Q:=by rw [e];exact h
theorem GF {b:Bool} {p q:Prop} (h:b=true→q→p) (r:q):bq b p q:=fX (fun e=>h e r) fun _=>r
theorem Bl {ok:Env→Prop} {ifs:SB} {k v:SE} {acc:List (bK×T)} {Q:List (bK×T)→Env→Prop} (h:Q acc ρ):cT ok g ifs k v C [] ρ acc Q:=by rw [ju];exact h
theorem uw {b:SS} {Q:Fl→Env→Prop} (h:Q .next ρ):eV g b C [] ρ Q:=by rw [ng];exact h
theorem r9 {b:SS} {x:T} {Q:Fl→Env→Prop} (h:eI g x ρ fun ρ=>b C ρ fun fl ρ=>match fl with
   | .next=>eV g b C xs ρ Q
   | .cont=>eV g b C xs ρ Q
   | .brk=>Q .next ρ
   | .ret t=>Q (.ret t) ρ):eV g b C (x::xs) ρ Q:=by rw [lw];exact h
theorem Az (mk:α→T) (env:σ→Env) (I:List α→σ→Prop) (R:T→σ→Prop) {b:SS} {Q:Fl→Env→Prop}
  (step:∀ x xs s,I (x::xs) s→∀ K:Fl→Env→Prop,(∀ s',I xs s'→K .next (env s'))→(∀ s',I xs s'→K .cont (env s'))→(∀ t s',R t s'→K (.ret t) (env s'))→eI g (mk x) (env s) fun ρ=>b C ρ K)
  (ret:∀ t s,R t s→Q (.ret t) (env s)) (fin:∀ s,I [] s→Q .next (env s)) (xs:List α) (s:σ) (h:I xs s):eV g b C (xs.map mk) (env s) Q:=by
 induction xs generalizing s with
 | nil=>rw [List.map_nil,ng];exact fin s h
 | cons x xs ih=>
  rw [c6,lw]
  exact step x xs s h _ ih ih ret
theorem cx (mk:α→T) (env:σ→Env) (I:List α→σ→Prop) {b:SS} {Q:Fl→Env→Prop}
  (step:∀ x xs s,I (x::xs) s→∀ K:Fl→Env→Prop,(∀ s',I xs s'→K .next (env s'))→eI g (mk x) (env s) fun ρ=>b C ρ K)
  (fin:∀ s,I [] s→Q .next (env s)) (xs:List α) (s:σ) (h:I xs s):eV g b C (xs.map mk) (env s) Q:=
 Az mk env I (fun _ _=>False) (fun x xs s h K k _ _=>step x xs s h K k) (fun _ _=>False.elim) fin xs s h
theorem zY (env:σ→Env) (I:List T→σ→Prop) {b:SS} {Q:Fl→Env→Prop}
  (step:∀ x xs s,I (x::xs) s→∀ K:Fl→Env→Prop,(∀ s',I xs s'→K .next (env s'))→eI g x (env s) fun ρ=>b C ρ K)
  (fin:∀ s,I [] s→Q .next (env s)) (xs:List T) (s:σ) (h:I xs s):eV g b C xs (env s) Q:=by
 have:=cx id env I step fin xs s h
 rwa [List.map_id] at this
theorem lH (env:σ→Env) (I:σ→Prop) (μ:σ→Nat) {c:SB} {b:SS} {Q:Fl→Env→Prop}
  (step:∀ s,I s→∀ K:Fl→Env→Prop,(∀ s',I s'→μ s' < μ s→K .next (env s'))→(∀ s',I s'→μ s' < μ s→K .cont (env s'))→c C (env s) fun t ρ=>bq t (b C ρ K) (Q .next ρ)) (s:σ) (h:I s):∃ m,kc c b C m (env s) Q:=by
 have go:∀ m s,μ s < m→I s→kc c b C m (env s) Q:=by
  intro m
  induction m with
  | zero=>intro s h;exact absurd h (Nat.not_lt_zero _)
  | succ m ih=>
   intro s hm hI
   exact step s hI _ (fun s' i l=>ih s' (gB l (Nat.le_of_lt_succ hm)) i) (fun s' i l=>ih s' (gB l (Nat.le_of_lt_succ hm)) i)
 exact ⟨μ s+1,go _ s (Nat.lt_succ_self _) h⟩
theorem uo (mk:α→T) (env:σ→Env) (I:List α→List T→σ→Prop) {ok:Env→Prop} {ifs:SB}
  (hok:∀ s,ok (env s))
  (step:∀ x xs acc s,I (x::xs) acc s→∀ K:Option T→Env→Prop,(∀ t s',I xs (acc++[t]) s'→K (some t) (env s'))→(∀ s',I xs acc s'→K none (env s'))→
   eI g (mk x) (env s) fun ρ=>ifs C ρ fun b ρ=>bq b (elt C ρ fun t ρ=>K (some t) ρ) (K none ρ))
  (fin:∀ acc s,I [] acc s→Q acc (env s)) (xs:List α) (acc:List T) (s:σ) (h:I xs acc s):cb ok g ifs elt C (xs.map mk) (env s) acc Q:=by
 induction xs generalizing acc s with
 | nil=>rw [List.map_nil,lB];exact fin acc s h
 | cons x xs ih=>
  rw [c6,jw]
  exact step x xs acc s h (fun o ρ=>ok ρ∧cb ok g ifs elt C (xs.map mk) ρ (o.elim acc fun t=>acc++[t]) Q) (fun t s' h'=>⟨hok s',ih _ s' h'⟩) fun s' h'=>⟨hok s',ih _ s' h'⟩
theorem eO {β:Type} (mk:α→T) (el:β→T) (env:σ→Env) (I:List α→List β→σ→Prop) {ok:Env→Prop} {ifs:SB}
  (hok:∀ s,ok (env s))
  (step:∀ x xs bs s,I (x::xs) bs s→∀ K:Option T→Env→Prop,(∀ b s',I xs (bs++[b]) s'→K (some (el b)) (env s'))→(∀ s',I xs bs s'→K none (env s'))→
   eI g (mk x) (env s) fun ρ=>ifs C ρ fun b ρ=>bq b (elt C ρ fun t ρ=>K (some t) ρ) (K none ρ))
  (xs:List α) (s:σ) (h:I xs [] s) (fin:∀ bs s,I [] bs s→Q (bs.map el) (env s)):cb ok g ifs elt C (xs.map mk) (env s) [] Q:=by
 refine uo mk env (fun l acc s=>∃ bs,acc=bs.map el∧I l bs s) hok (fun x l acc s h K k1 k2=>?_) (fun acc s h=>?_) xs [] s ⟨[],rfl,h⟩
 ·obtain ⟨bs,rfl,i⟩:=h
  exact step x l bs s i K (fun b s' i'=>k1 _ s' ⟨bs++[b],by rw [dJ];rfl,i'⟩) fun s' i'=>k2 s' ⟨bs,rfl,i'⟩
 ·obtain ⟨bs,rfl,i⟩:=h
  exact fin bs s i
theorem tI (mk:α→T) (f:α→Option T) (env:σ→Env) {ok:Env→Prop} {ifs:SB} (hok:∀ s,ok (env s)) (xs:List α)
  (step:∀ x∈xs,∀ s,∀ K:Option T→Env→Prop,(∀ s',K (f x) (env s'))→eI g (mk x) (env s) fun ρ=>ifs C ρ fun b ρ=>bq b (elt C ρ fun t ρ=>K (some t) ρ) (K none ρ))
  (s:σ) (fin:∀ s,Q (xs.filterMap f) (env s)):cb ok g ifs elt C (xs.map mk) (env s) [] Q:=by
 refine uo mk env (fun l acc _=>acc++l.filterMap f=xs.filterMap f∧∀ x∈l,x∈xs) hok (fun x l acc s h K k1 k2=>?_) (fun acc s h=>?_) xs [] s ⟨rfl,fun _ h=>h⟩
 ·refine step x (h.2 x (.head _)) s K fun s'=>?_
  have h1:=h.1
  rw [List.filterMap_cons] at h1
  induction q:f x with
  | none=>rw [q] at h1;exact k2 s' ⟨h1,fun y m=>h.2 y (.tail _ m)⟩
  | some t=>rw [q] at h1;exact k1 t s' ⟨by rw [List.append_assoc];exact h1,fun y m=>h.2 y (.tail _ m)⟩
 ·have:=h.1
  rw [List.filterMap_nil,cr] at this
  subst this;exact fin s
theorem r7 {β:Type} (f:α→β) (xs:List α):xs.filterMap (fun x=>some (f x))=xs.map f:=by
 induction xs with
 | nil=>rfl
 | cons x xs ih=>exact (List.filterMap_cons_some (f:=fun x=>some (f x)) rfl).trans (aw (f x::·) ih)
theorem f7 {β:Type} (p:α→Bool) (f:α→β) (xs:List α):xs.filterMap (fun x=>if p x then some (f x) else none)=(xs.filter p).map f:=by
 induction xs with
 | nil=>rfl
 | cons x xs ih=>cases q:p x<;>simp [q,ih]
theorem bc (mk:α→T) (f:α→T) (env:σ→Env) {ok:Env→Prop} (hok:∀ s,ok (env s)) (xs:List α)
  (step:∀ x∈xs,∀ s,∀ K:T→Env→Prop,(∀ s',K (f x) (env s'))→eI g (mk x) (env s) fun ρ=>elt C ρ K)
  (s:σ) (fin:∀ s,Q (xs.map f) (env s)):cb ok g aI elt C (xs.map mk) (env s) [] Q:=by
 refine tI mk (fun x=>some (f x)) env hok xs (fun x m s K k=>?_) s (fun s=>?_)
 ·exact step x m s (fun t ρ=>K (some t) ρ) k
 ·rw [r7];exact fin s
theorem bg (mk:α→T) (p:α→Bool) (f:α→T) (env:σ→Env) (sx:α→σ) {ok:Env→Prop} {ifs:SB} (hok:∀ s,ok (env s)) (xs:List α)
  (step:∀ x∈xs,∀ s,∀ K:Bool→Env→Prop,K (p x) (env (sx x))→eI g (mk x) (env s) fun ρ=>ifs C ρ K)
  (val:∀ x∈xs,p x=true→∀ K:T→Env→Prop,(∀ s',K (f x) (env s'))→elt C (env (sx x)) K)
  (s:σ) (fin:∀ s,Q ((xs.filter p).map f) (env s)):cb ok g ifs elt C (xs.map mk) (env s) [] Q:=by
 refine tI mk (fun x=>if p x then some (f x) else none) env hok xs (fun x m s K k=>?_) s (fun s=>?_)
 ·refine step x m s (fun b ρ=>bq b (elt C ρ fun t ρ=>K (some t) ρ) (K none ρ)) ?_
  induction q:p x with
  | false=>have:=k (sx x);rw [q] at this;exact this
  | true=>
   refine val x m q (fun t ρ=>K (some t) ρ) fun s''=>?_
   have:=k s'';rw [q] at this;exact this
 ·rw [f7];exact fin s
theorem jL (bs:List α) (x:α):(bs++[x]).length=bs.length+1:=bS
theorem Ed {bs:List α} {x:α} {m k:Nat} (h:bs.length+(m+1)=k):(bs++[x]).length+m=k:=by rw [jL];lia
theorem mG {P:α→Prop} {bs:List α} {x:α} (h:∀ b∈bs,P b) (hx:P x):∀ b∈bs++[x],P b:=fun _ hb=>(cH.mp hb).elim (h _) fun hb=>by rw [aV.mp hb];exact hx
end
section
structure KE (κ:Type) where
 f:κ→bK
 t:κ→T
 inj:∀ a b,f a=f b→a=b
 kd:Nat
 hk:∀ k,(f k).kind=kd
 kt:∀ k,fO (t k)=some (f k)
 tk:∀ k,cf (f k)=t k
noncomputable abbrev kI:KE Int:=⟨.I,.int,fun _ _ h=>bK.I.inj h,0,fun _=>rfl,fun _=>rfl,fun _=>rfl⟩
noncomputable abbrev kP:KE (Int×Int):=⟨fun p=>.T [p.1,p.2],fun p=>.tup [.int p.1,.int p.2],fun a b h=>by
 have:=bK.T.inj h
 simp only [List.cons.injEq,and_true] at this
 exact Prod.ext this.1 this.2,2,fun _=>rfl,fun _=>rfl,fun _=>rfl⟩
section
variable {κ ν:Type} [DecidableEq κ]
noncomputable def b8:List (κ×ν)→κ→Option ν
 | [],_=>none
 | p::r,k=>if p.1=k then some p.2 else b8 r k
noncomputable def eJ:List (κ×ν)→κ→ν→List (κ×ν)
 | [],k,v=>[(k,v)]
 | p::r,k,v=>if p.1=k then (p.1,v)::r else p::eJ r k v
noncomputable abbrev keys (m:List (κ×ν)):List κ:=m.map (·.1)
noncomputable def ip (l:List (κ×ν)):List (κ×ν):=l.foldl (fun m p=>eJ m p.1 p.2) []
theorem lY (p:κ×ν) (r:List (κ×ν)) (k:κ):b8 (p::r) k=if p.1=k then some p.2 else b8 r k:=rfl
theorem Nd (p:κ×ν) (r:List (κ×ν)) (k:κ) (v:ν):eJ (p::r) k v=if p.1=k then (p.1,v)::r else p::eJ r k v:=rfl
theorem pL {P:List (κ×ν)→Option ν→Prop} {k:κ} (h0:P [] none) (h1:∀ w r,P ((k,w)::r) (some w)) (h2:∀ p r,p.1≠k→P r (b8 r k)→P (p::r) (b8 r k)) (m:List (κ×ν)):P m (b8 m k):=by
 induction m with
 | nil=>exact h0
 | cons p r ih=>
  show P _ (if p.1=k then some p.2 else b8 r k)
  exact iteInduction (fun e=>by subst e;exact h1 p.2 r) fun e=>h2 p r e ih
theorem gN {P:List (κ×ν)→List (κ×ν)→Prop} {k:κ} {v:ν} (h0:P [] [(k,v)]) (h1:∀ w r,P ((k,w)::r) ((k,v)::r)) (h2:∀ p r,p.1≠k→P r (eJ r k v)→P (p::r) (p::eJ r k v)) (m:List (κ×ν)):P m (eJ m k v):=by
 induction m with
 | nil=>exact h0
 | cons p r ih=>
  show P _ (if p.1=k then (p.1,v)::r else p::eJ r k v)
  exact iteInduction (fun e=>by subst e;exact h1 p.2 r) fun e=>h2 p r e ih
theorem jl {m:List (κ×ν)} {k:κ}:b8 m k=none↔k∉keys m:=
 pL (P:=fun m o=>o=none↔k∉keys m) ⟨fun _ h=>absurd h List.not_mem_nil,fun _=>rfl⟩ (fun w r=>⟨fun h=>nn h.symm,fun h=>absurd (.head _) h⟩)
  (fun p r e ih=>ih.trans ⟨fun h c=>(aU.mp c).elim (fun d=>e d.symm) h,fun h c=>h (.tail _ c)⟩) m
theorem fp {m:List (κ×ν)} {k:κ}:(b8 m k).isSome=true↔k∈keys m:=Option.isSome_iff_ne_none.trans ((not_congr jl).trans Classical.not_not)
theorem cW {m:List (κ×ν)} {k:κ} {v:ν} (h:b8 m k=some v):(k,v)∈m:=
 pL (P:=fun m o=>o=some v→(k,v)∈m) nn (fun w r e=>by rw [az e];exact .head _) (fun p r _ ih h=>.tail _ (ih h)) m h
theorem du {m:List (κ×ν)} (nd:(keys m).Nodup) {k:κ} {v:ν} (h:(k,v)∈m):b8 m k=some v:=
 pL (P:=fun m o=>(keys m).Nodup→(k,v)∈m→o=some v) (fun _ h=>nomatch h)
  (fun w r nd h=>(aU.mp h).elim (fun e=>by rw [(Prod.mk.inj e).2]) fun h=>absurd (List.mem_map_of_mem (f:=Prod.fst) h) (cP.mp nd).1)
  (fun p r e ih nd h=>ih (cP.mp nd).2 ((aU.mp h).resolve_left fun c=>e (c▸rfl))) m nd h
theorem FR (m:List (κ×ν)) (k:κ) (v:ν) (k':κ):b8 (eJ m k v) k'=if k=k' then some v else b8 m k':=
 gN (P:=fun m m'=>b8 m' k'=if k=k' then some v else b8 m k') rfl
  (fun w r=>by
   rw [lY,lY]
   by_cases q:k=k'
   ·rw [au q,au q]
   ·rw [av q,av q,av q])
  (fun p r e ih=>by
   rw [lY,lY,ih]
   by_cases q:p.1=k'
   ·rw [au q,av fun c=>e (q.trans c.symm),au q]
   ·rw [av q,av q]) m
theorem j2 {m:List (κ×ν)} {k:κ} (v:ν) (h:k∉keys m):eJ m k v=m++[(k,v)]:=
 gN (P:=fun m m'=>k∉keys m→m'=m++[(k,v)]) (fun _=>rfl) (fun w r h=>absurd (.head _) h) (fun p r _ ih h=>aw (p::·) (ih fun c=>h (.tail _ c))) m h
theorem eh {m:List (κ×ν)} {k:κ} {v:ν} {x:κ}:x∈keys (eJ m k v)↔x∈keys m∨x=k:=
 gN (P:=fun m m'=>x∈keys m'↔x∈keys m∨x=k) ⟨fun h=>.inr (aV.mp h),fun h=>h.elim (fun h=>nomatch h) fun e=>e▸.head _⟩
  (fun w r=>⟨.inl,fun h=>h.elim id fun e=>e▸.head _⟩) (fun p r _ ih=>aU.trans ((or_congr Iff.rfl ih).trans (or_assoc.symm.trans (or_congr aU.symm Iff.rfl)))) m
theorem eA {m:List (κ×ν)} {k:κ} {v:ν} (h:(keys m).Nodup):(keys (eJ m k v)).Nodup:=
 gN (P:=fun m m'=>(keys m).Nodup→(keys m').Nodup) (fun _=>cP.mpr ⟨List.not_mem_nil,cK⟩) (fun _ _ h=>h)
  (fun p r e ih nd=>cP.mpr ⟨fun c=>(eh.mp c).elim (cP.mp nd).1 e,ih (cP.mp nd).2⟩) m h
theorem bG (m:List (κ×ν)):(keys m).length=m.length:=ba _
theorem iw (m:List (κ×ν)) (k:κ) (v:ν):m.length≤(eJ m k v).length∧(eJ m k v).length≤m.length+1:=
 gN (P:=fun m m'=>m.length≤m'.length∧m'.length≤m.length+1) ⟨ck _,Nat.le_refl _⟩ (fun _ _=>⟨Nat.le_refl _,Nat.le_succ _⟩) (fun _ _ _ ih=>⟨gR ih.1,gR ih.2⟩) m
noncomputable def o4 (m:List (κ×ν)) (l:List (κ×ν)):List (κ×ν):=l.foldl (fun m p=>eJ m p.1 p.2) m
theorem A6 {l m:List (κ×ν)} (h:(keys (m++l)).Nodup):o4 m l=m++l:=by
 induction l generalizing m with
 | nil=>exact (cr m).symm
 | cons p l ih=>
  have hp:p.1∉keys m:=fun c=>by rw [keys,dJ,cD] at h;exact h.2.2 _ c _ (.head _) rfl
  show o4 (eJ m p.1 p.2) l=_
  rw [j2 _ hp]
  rw [show m++p::l=(m++[p])++l from by rw [List.append_assoc];rfl] at h ⊢
  exact ih h
theorem iH {l:List (κ×ν)} (h:(keys l).Nodup):ip l=l:=A6 (m:=[]) h
theorem v4 {l m:List (κ×ν)} (h:(keys m).Nodup):(keys (o4 m l)).Nodup:=by
 induction l generalizing m with
 | nil=>exact h
 | cons p l ih=>exact ih (eA h)
theorem hE (l:List (κ×ν)):(keys (ip l)).Nodup:=v4 (m:=[]) cK
theorem Ca (l m:List (κ×ν)):(o4 m l).length≤m.length+l.length:=by
 induction l generalizing m with
 | nil=>exact Nat.le_refl _
 | cons p l ih=>exact aH (ih (m:=eJ m p.1 p.2)) (aH (Nat.add_le_add_right (iw m p.1 p.2).2 _) (er (Nat.succ_add_eq_add_succ m.length l.length)))
theorem kg (l:List (κ×ν)):(ip l).length≤l.length:=by
 have:=Ca l ([]:List (κ×ν));rwa [List.length_nil,Nat.zero_add] at this
theorem w6 {m:List (κ×ν)} {k:κ} {v:ν} {p:κ×ν} (h:p∈eJ m k v):p∈m∨p=(k,v):=
 gN (P:=fun m m'=>p∈m'→p∈m∨p=(k,v)) (fun h=>.inr (aV.mp h)) (fun w r h=>(aU.mp h).elim .inr fun h=>.inl (.tail _ h))
  (fun q r _ ih h=>(aU.mp h).elim (fun e=>.inl (e▸.head _)) fun h=>(ih h).imp (.tail _) id) m h
theorem B0 {l m:List (κ×ν)} {p:κ×ν} (h:p∈o4 m l):p∈m∨p∈l:=by
 induction l generalizing m with
 | nil=>exact .inl h
 | cons q l ih=>exact (ih h).elim (fun h=>(w6 h).imp id fun (e:p=q)=>e▸.head _) fun h=>.inr (.tail _ h)
theorem tC {l:List (κ×ν)} {p:κ×ν} (h:p∈ip l):p∈l:=(B0 h).resolve_left (fun h=>nomatch h)
theorem M4 {l m:List (κ×ν)} {k:κ}:k∈keys (o4 m l)↔k∈keys m∨k∈keys l:=by
 induction l generalizing m with
 | nil=>exact ⟨.inl,fun h=>h.resolve_right fun h=>nomatch h⟩
 | cons p l ih=>exact (ih (m:=eJ m p.1 p.2)).trans ((or_congr eh Iff.rfl).trans (or_assoc.trans (or_congr Iff.rfl aU.symm)))
noncomputable def em (K:KE κ) (vf:ν→T) (m:List (κ×ν)):List (bK×T):=m.map fun p=>(K.f p.1,vf p.2)
noncomputable abbrev D (K:KE κ) (vf:ν→T) (m:List (κ×ν)):T:=.dict (em K vf m)
variable (K:KE κ) (vf:ν→T)
theorem rU (m:List (κ×ν)) (k:κ):tZ (K.f k) (em K vf m)=true:=
 aY.mpr fun x hx=>by
  obtain ⟨p,_,rfl⟩:=bo.mp hx
  exact bm.mpr ((K.hk _).trans (K.hk k).symm)
theorem pW (m:List (κ×ν)) (k:κ):gw (em K vf m) (K.f k)=(b8 m k).map vf:=
 pL (P:=fun m o=>gw (em K vf m) (K.f k)=o.map vf) rfl
  (fun w r=>by show ((List.find? _ ((K.f k,vf w)::em K vf r)).map _)=_;rw [List.find?_cons_of_pos (p:=fun p:bK×T=>decide (p.1=K.f k)) (br rfl)];rfl)
  (fun p r e ih=>by show ((List.find? _ ((K.f p.1,vf p.2)::em K vf r)).map _)=_;rw [List.find?_cons_of_neg (p:=fun p:bK×T=>decide (p.1=K.f k)) fun c=>e (K.inj _ _ (bH c))];exact ih) m
theorem E8 {a:bK} {w v:T} {r:List (bK×T)} (h:∀ q∈r,¬ q.1=a):gZ ((a,w)::r) a v=(a,v)::r:=by
 unfold gZ
 rw [au (by rw [List.any_cons,br rfl];rfl),c6,au rfl]
 exact aw (_::·) ((iD fun q hq=>av (h q hq)).trans (List.map_id _))
theorem Bu {a:bK} {v:T} {p:bK×T} {r:List (bK×T)} (e:¬ p.1=a):gZ (p::r) a v=p::gZ r a v:=by
 unfold gZ
 rw [List.any_cons,decide_eq_false e,Bool.false_or]
 by_cases h:r.any (fun p=>decide (p.1=a))=true
 ·rw [au h,au h,c6,av e]
 ·rw [av h,av h];rfl
theorem GK (m:List (κ×ν)) (nd:(keys m).Nodup) (k:κ) (v:ν):gZ (em K vf m) (K.f k) (vf v)=em K vf (eJ m k v):=
 gN (P:=fun m m'=>(keys m).Nodup→gZ (em K vf m) (K.f k) (vf v)=em K vf m') (fun _=>rfl)
  (fun w r nd=>E8 fun q hq c=>by
   obtain ⟨p,hp,rfl⟩:=bo.mp hq
   exact (cP.mp nd).1 (show k∈r.map Prod.fst from K.inj p.1 k c▸List.mem_map_of_mem (f:=Prod.fst) hp))
  (fun p r e ih nd=>(Bu (p:=(K.f p.1,vf p.2)) fun c=>e (K.inj _ _ c)).trans (aw (_::·) (ih (cP.mp nd).2))) m nd
theorem rG {m:List (κ×ν)} (nd:(keys m).Nodup) (hl:m.length < SZ) (k:κ) (v:ν):k0 (em K vf m) (K.f k) (vf v)=some (em K vf (eJ m k v)):=by
 unfold k0
 rw [rU,GK K vf m nd]
 rw [au]
 simp [em,hl]
theorem gc {m:List (κ×ν)} (nd:(keys m).Nodup) (hl:m.length < SZ) (k:κ) (v:ν):jJ (D K vf m) (K.t k) (vf v)=some (D K vf (eJ m k v)):=by
 show ((fO (K.t k)).bind fun k=>(k0 (em K vf m) k (vf v)).map T.dict)=_
 rw [K.kt,fR,rG K vf nd hl];rfl
theorem DN (m:List (κ×ν)) (k:κ):OW (K.t k) (D K vf m)=some (b8 m k).isSome:=by
 show ((fO (K.t k)).bind fun k=>if tZ k (em K vf m) then some (gw (em K vf m) k).isSome else none)=_
 rw [K.kt,fR,rU,au rfl,pW,Option.isSome_map]
theorem jN (m:List (κ×ν)) (k:κ):ky .In (K.t k) (D K vf m)=some (b8 m k).isSome:=DN K vf m k
theorem qp (m:List (κ×ν)) (k:κ):ky .NotIn (K.t k) (D K vf m)=some (!(b8 m k).isSome):=aw (Option.map (!·)) (DN K vf m k)
theorem bE {m:List (κ×ν)} {k:κ} {v:ν} (h:b8 m k=some v):getItem (D K vf m) (K.t k)=some (vf v):=by
 show ((fO (K.t k)).bind fun k=>if tZ k (em K vf m) then gw (em K vf m) k else none)=_
 rw [K.kt,fR,rU,au rfl,pW,h];rfl
theorem lr (m:List (κ×ν)) (k:κ) (d:T):NC .get (D K vf m) [K.t k,d]=some (((b8 m k).map vf).getD d):=by
 show ((fO (K.t k)).bind fun k=>if tZ k (em K vf m) then some ((gw (em K vf m) k).getD d) else none)=_
 rw [K.kt,fR,rU,au rfl,pW]
theorem FP (m:List (κ×ν)):items (D K vf m)=some ((keys m).map K.t):=by
 show some (((em K vf m).map fun p=>cf p.1))=some ((m.map (·.1)).map K.t)
 unfold em
 rw [cu,cu]
 exact aw some (iD fun p _=>K.tk _)
theorem Na {o:jf} (m:List (κ×ν)) (h:iZ o ρ=none):fV o ρ (D K vf m)=some ((keys m).map K.t):=by
 unfold fV;rw [h];exact FP K vf m
theorem Kn (m:List (κ×ν)):bi .len (D K vf m)=some (.int m.length):=by
 exact aw (fun n:Nat=>some (T.int n)) (ba _)
theorem DJ (m:List (κ×ν)):qO (D K vf m)=some (!m.isEmpty):=by
 induction m<;>rfl
theorem CU {m m' l:Nat} (h:m'≤m+1) (hl:m+(l+1)≤SZ):m < SZ∧m'+l≤SZ:=by lia
theorem Cg (l m:List (κ×ν)) (nd:(keys m).Nodup) (hl:m.length+l.length≤SZ):lF (l.map fun p=>(K.t p.1,vf p.2)) (em K vf m)=some (em K vf (o4 m l)):=by
 induction l generalizing m with
 | nil=>rfl
 | cons p l ih=>
  have hl:=CU (iw m p.1 p.2).2 hl
  show ((fO (K.t p.1)).bind fun k=>(k0 (em K vf m) k (vf p.2)).bind fun d=>lF (l.map _) d)=_
  rw [K.kt,fR,rG K vf nd hl.1,fR,ih _ (eA nd) hl.2]
  rfl
theorem xc {β:Type} (f g:β→T) (l:List β):fB (l.map fun p=>.tup [f p,g p])=some (l.map fun p=>(f p,g p)):=by
 induction l with
 | nil=>rfl
 | cons p l ih=>rw [c6,fB,ih];rfl
theorem iU (l:List (κ×ν)) (hl:l.length≤SZ):bi .dict (.list (l.map fun p=>.tup [K.t p.1,vf p.2]))=some (D K vf (ip l)):=by
 show ((fB _).bind fun ps=>lF ps []).map T.dict=_
 rw [xc,fR,show ([]:List (bK×T))=em K vf [] from rfl,Cg K vf l [] cK (by simpa using hl)]
 rfl
theorem qY (mk:α→T) (f:α→Option (κ×ν)) (env:σ→Env) {ok:Env→Prop} {ifs:SB} {ek ev:SE} {Q:List (bK×T)→Env→Prop} (hok:∀ s,ok (env s)) (xs:List α) (hl:xs.length < 1000)
  (step:∀ x∈xs,∀ s,∀ K':Option (bK×T)→Env→Prop,(∀ s',K' ((f x).map fun p=>(K.f p.1,vf p.2)) (env s'))→eI g (mk x) (env s) fun ρ=>ifs C ρ fun b ρ=>bq b (ek C ρ fun tk ρ=>ev C ρ fun tv ρ=>fW (fO tk) fun k=>K' (some (k,tv)) ρ) (K' none ρ))
  (s:σ) (fin:∀ s,Q (em K vf (ip (xs.filterMap f))) (env s)):cT ok g ifs ek ev C (xs.map mk) (env s) [] Q:=by
 suffices h:∀ m:List (κ×ν),(keys m).Nodup→m.length+xs.length≤SZ→(∀ s,Q (em K vf (o4 m (xs.filterMap f))) (env s))→cT ok g ifs ek ev C (xs.map mk) (env s) (em K vf m) Q from
  h [] cK (aH (er (Nat.zero_add _)) (aH (Nat.le_of_lt hl) (by decide))) fin
 clear hl fin
 induction xs generalizing s with
 | nil=>intro m _ _ fin;rw [List.map_nil,ju];exact fin s
 | cons x xs ih=>
  intro m nd hl fin
  have ih:=fun s m=>ih (fun y h=>step y (.tail _ h)) s m
  rw [c6,lQ]
  refine step x (.head _) s (fun o ρ=>o.elim (ok ρ∧cT ok g ifs ek ev C (xs.map mk) ρ (em K vf m) Q) fun p=>fW (k0 (em K vf m) p.1 p.2) fun acc=>ok ρ∧cT ok g ifs ek ev C (xs.map mk) ρ acc Q) fun s'=>?_
  induction q:f x with
  | none=>
   rw [List.filterMap_cons_none q] at fin
   exact ⟨hok s',ih s' m nd (Nat.le_of_succ_le hl) fin⟩
  | some p=>
   rw [List.filterMap_cons_some q] at fin
   have hl:=CU (iw m p.1 p.2).2 hl
   exact ab (rG K vf nd hl.1 p.1 p.2) ⟨hok s',ih s' (eJ m p.1 p.2) (eA nd) hl.2 fin⟩
theorem m9 (m:List (κ×ν)):((em K vf m).map fun p=>cf p.1)=(keys m).map K.t:=by
 unfold em
 rw [cu,cu]
 exact iD fun p _=>K.tk _
theorem gj {m:List (κ×ν)} {ok:Env→Prop} {ifs:SB} {acc:List T} (h:cb ok g ifs elt C ((keys m).map K.t) ρ acc Q):cb ok g ifs elt C ((em K vf m).map fun p=>cf p.1) ρ acc Q:=by rw [m9];exact h
theorem Lf {m:List (κ×ν)} {ok:Env→Prop} {ifs:SB} {ek ev:SE} {acc:List (bK×T)} {Q:List (bK×T)→Env→Prop} (h:cT ok g ifs ek ev C ((keys m).map K.t) ρ acc Q):cT ok g ifs ek ev C ((em K vf m).map fun p=>cf p.1) ρ acc Q:=by rw [m9];exact h
theorem Fj {m:List (κ×ν)} {b:SS} {Q:Fl→Env→Prop} (h:eV g b C ((keys m).map K.t) ρ Q):eV g b C ((em K vf m).map fun p=>cf p.1) ρ Q:=by rw [m9];exact h
end
end
section
theorem iX {l:List Int} (nd:l.Nodup) (h:l.length < 60):iv (l.map T.int)=some ((canon l).map .int):=om nd h
theorem Jj {l:List Int} (nd:l.Nodup) (h:l.length < 60):bi .sorted (.list (l.map T.int))=some (.list ((canon l).map .int)):=by
 unfold bi
 dsimp only
 rw [iX nd h];rfl
theorem yM {l:List Int} (h:l.length < 60):bi .sorted (.set l)=some (.list (l.map .int)):=by
 unfold bi
 dsimp only
 rw [au h]
section
variable {ν:Type} (vf:ν→T)
theorem eH {m:List (Int×ν)} (nd:(keys m).Nodup) (h:m.length < 60):bi .sorted (D kI vf m)=some (.list ((canon (keys m)).map .int)):=by
 unfold bi D
 dsimp only
 rw [m9,show ((keys m).map kI.t)=(keys m).map T.int from rfl,iX nd (by rw [bG];exact h)];rfl
end
theorem HO (sh:Bool) (l:List (Int×Int)):Od sh (l.map (gV sh))=some l:=by
 induction l with
 | nil=>rfl
 | cons p l ih=>rw [c6,Od,ih];induction sh<;>rfl
theorem oN {sh:Bool} {l:List (Int×Int)} (nd:l.Nodup) (h:l.length≤4):iv (l.map (gV sh))=some ((bh l).map (gV sh)):=by
 unfold iv
 by_cases h1:(l.map (gV sh)).length≤1
 ·rw [au h1]
  rw [ba] at h1
  rcases Jp h1 with e | ⟨a,e⟩<;>rw [e]<;>rfl
 ·have e2:kL sh (l.map (gV sh))=some ((bh l).map (gV sh)):=by
   unfold kL
   rw [HO,fR,au ⟨h,nd⟩]
  rw [av h1]
  induction l with
  | nil=>exact absurd (ck _) h1
  | cons p r=>
   induction sh with
   | true=>exact e2
   | false=>show (match kL false ((p::r).map (gV false)) with | some r=>some r | none=>kL true _)=_;rw [e2]
theorem wm {l:List (Int×Int)} (nd:l.Nodup) (h:l.length≤4):bi .sorted (.list (l.map (gV true)))=some (.list ((bh l).map (gV true))):=by
 unfold bi
 dsimp only
 rw [oN nd h];rfl
theorem kh (vf:ν→T) {m:List ((Int×Int)×ν)} (nd:(keys m).Nodup) (h:m.length≤4):bi .sorted (D kP vf m)=some (.list ((bh (keys m)).map kP.t)):=by
 unfold bi D
 dsimp only
 rw [m9,show ((keys m).map kP.t)=(keys m).map (gV false) from rfl,oN nd (by rw [bG];exact h)];rfl
theorem G7 {ys:List T} (h:xs.length+ys.length≤1000):tw .Add (.tup xs) (.tup ys)=some (.tup (xs++ys)):=au (aH h (by decide))
theorem add_list {ys:List T} (h:xs.length+ys.length≤1000):tw .Add (.list xs) (.list ys)=some (.list (xs++ys)):=au (aH h (by decide))
theorem dL {l:List Int} {k:Int} (h:k∈canon l):k∈l:=aN.mp h
theorem g7 {l:List (Int×Int)} {k:Int×Int} (h:k∈bh l):k∈l:=(bI l).mem_iff.mp h
end
section
inductive PL:Nat→T→Prop
 | none (d:Nat):PL d .none
 | bool (d:Nat) (b:Bool):PL d (.bool b)
 | int (d:Nat) (i:Int):PL d (.int i)
 | str (d s:Nat):PL d (.str s)
 | tup (d:Nat) (xs:List T):(∀ x∈xs,PL d x)→PL (d+1) (.tup xs)
 | list (d:Nat) (xs:List T):(∀ x∈xs,PL d x)→PL (d+1) (.list xs)
theorem nq {d:Nat}:(∀ x∈xs,depth x≤d)→ql xs≤d:=by
 induction xs with
 | nil=>exact fun _=>ck _
 | cons x xs ih=>exact fun h=>Nat.max_le.mpr ⟨h x (.head _),ih fun y m=>h y (.tail _ m)⟩
theorem tJ:(∀ x∈xs,z0 x x=some true)→wh xs xs=some true:=by
 induction xs with
 | nil=>exact fun _=>rfl
 | cons x xs ih=>
  intro h
  show ((z0 x x).bind fun a=>(wh xs xs).map fun b=>a&&b)=_
  rw [h x (.head _),ih fun y m=>h y (.tail _ m)];rfl
theorem PL.depth {d:Nat} {t:T} (h:PL d t):depth t≤d:=by
 induction h with
 | tup d xs _ ih=>exact gR (nq ih)
 | list d xs _ ih=>exact gR (nq ih)
 | _=>exact ck _
theorem PL.refl {d:Nat} {t:T} (h:PL d t):z0 t t=some true:=by
 induction h with
 | none=>rfl
 | bool d b=>exact aw some (beq_self_eq_true b)
 | int d b=>exact aw some (br rfl)
 | str d b=>exact aw some (br rfl)
 | tup d xs _ ih=>exact tJ ih
 | list d xs _ ih=>exact (au rfl).trans (tJ ih)
theorem PL.q {d:Nat} {t:T} (h:PL d t):Lw t t=some true:=by
 induction h with
 | none=>rfl
 | bool _ b=>exact PL.refl (.bool 0 b)
 | int _ b=>exact PL.refl (.int 0 b)
 | str _ b=>exact PL.refl (.str 0 b)
 | tup d xs h=>exact PL.refl (.tup d xs h)
 | list d xs h=>exact PL.refl (.list d xs h)
theorem Al {a b:T} (h:Nz.depth a≤60):ky .Eq a b=Lw a b:=au h
theorem pR {a b:T} (h:Nz.depth a≤60):ky .NotEq a b=(Lw a b).map (!·):=au h
theorem wn {d:Nat} {t:T} (h:PL d t) (hd:d≤60):ky .Eq t t=some true:=by
 rw [Al (aH h.depth hd)];exact h.q
theorem uU {d:Nat} {t:T} (h:PL d t) (hd:d≤60):ky .NotEq t t=some false:=by
 rw [pR (aH h.depth hd),h.q];rfl
theorem NG:∀ {xs:List T},wh xs []=some xs.isEmpty
 | []=>rfl
 | _::_=>rfl
theorem Dj {d:Nat} (h:∀ x∈xs,PL d x) (hd:d < 60):ky .Eq (.list xs) (.list [])=some xs.isEmpty:=by
 rw [Al (aH (PL.list d xs h).depth hd)]
 induction xs<;>rfl
theorem PS {d:Nat} (h:∀ x∈xs,depth x≤d) (hd:d < 60):ky .NotEq (.list xs) (.list [])=some (!xs.isEmpty):=by
 rw [pR (aH (gR (nq h)) hd)]
 induction xs<;>rfl
theorem Ig {d:Nat} (h:∀ x∈xs,PL d x) (hd:d < 60):ky .NotEq (.tup xs) (.tup [])=some (!xs.isEmpty):=by
 rw [pR (aH (PL.tup d xs h).depth hd)]
 induction xs<;>rfl
theorem PL.ints (l:List Int):∀ x∈l.map T.int,PL 0 x:=fun x h=>by
 obtain ⟨i,_,rfl⟩:=bo.mp h;exact .int 0 i
theorem PL.up {d e:Nat} {t:T} (h:PL d t) (hd:d≤e):PL e t:=by
 induction h generalizing e with
 | none=>exact .none e
 | bool d b=>exact .bool e b
 | int d b=>exact .int e b
 | str d b=>exact .str e b
 | tup d xs _ ih=>
  induction e with
  | zero=>cases hd
  | succ e=>exact .tup e xs fun x m=>ih x m (Nat.le_of_succ_le_succ hd)
 | list d xs _ ih=>
  induction e with
  | zero=>cases hd
  | succ e=>exact .list e xs fun x m=>ih x m (Nat.le_of_succ_le_succ hd)
theorem nS [DecidableEq κ] (K:KE κ) {a b:List (κ×Int)} (na:(keys a).Nodup) (nb:(keys b).Nodup) (h:∀ k,b8 a k=b8 b k):ky .NotEq (D K T.int a) (D K T.int b)=some false:=by
 have hp:(keys a).Perm (keys b):=(List.perm_ext_iff_of_nodup na nb).mpr fun k=>by rw [← fp,← fp,h]
 have hl:a.length=b.length:=by have:=hp.length_eq;rwa [bG,bG] at this
 have hdep:∀ m:List (κ×Int),hX (em K T.int m)=0:=fun m=>by
  induction m with
  | nil=>rfl
  | cons p m ih=>show max 0 (hX (em K T.int m))=0;rw [ih];rfl
 have hd:depth (D K T.int a)≤60:=by
  show hX (em K T.int a)+1≤60
  rw [hdep];decide
 rw [pR hd]
 show (Oy (em K T.int a) (em K T.int b)).map (!·)=_
 unfold Oy
 rw [au]
 ·rfl
 ·refine ⟨by simp [em,hl],?_⟩
  rw [aY]
  intro p hpm
  obtain ⟨q,hq,rfl⟩:=bo.mp hpm
  dsimp only
  rw [rU,pW,← h q.1,du na (show (q.1,q.2)∈a from hq),Bool.true_and]
  show (z0 (.int q.2) (.int q.2)==some true)=true
  rw [(PL.int 0 q.2).refl];rfl
end
section
noncomputable abbrev DI (m:List (Int×Int)):T:=D kI T.int m
noncomputable abbrev fw (m:T):T:=.inst 4 [(15,m)]
noncomputable abbrev pi (m:T):T:=.inst 2 [(8,m)]
noncomputable abbrev be (kind:Nat) (tables:T):T:=.inst 6 [(21,.str kind),(22,.int 0),(23,.int 0),(24,tables)]
noncomputable abbrev ed (m:T):T:=.inst 3 [(11,m),(12,.bool false)]
noncomputable abbrev sj (a b c d:Int):T:=.inst 5 [(17,.int a),(18,.int b),(19,.int c),(20,.int d)]
noncomputable abbrev i5 (m:T):T:=.inst 0 [(1,m),(3,.none)]
noncomputable abbrev kA (m:T):T:=.inst 1 [(6,m)]
noncomputable abbrev yl (a b c d e:T):T:=.inst 13 [(48,a),(49,b),(50,c),(51,d),(52,e)]
noncomputable abbrev un (c a s p k:T):T:=.inst 8 [(6,c),(34,a),(8,s),(35,p),(36,k)]
noncomputable abbrev zv (r f:T):T:=.inst 9 [(38,r),(39,f)]
noncomputable abbrev ID (t d l:T):T:=.inst 10 [(40,t),(41,d),(42,l)]
noncomputable abbrev oA (t l:T):T:=.inst 11 [(40,t),(44,l)]
noncomputable abbrev C6 (s f l:T):T:=.inst 12 [(45,s),(39,f),(44,l)]
noncomputable abbrev qM (c m g s p k:T):T:=.inst 7 [(27,c),(28,m),(29,g),(30,s),(31,p),(32,k)]
section
variable {n:Nat} {Q:T→Option T→Prop}
theorem wZ (m:T) (h:Q .none (some (fw m))):CN (n+1) 9 [m] (some (.inst 4 [])) Q:=
 ao (fd:=kK) rfl rfl rfl (ab rfl h)
theorem IT (m:T) (h:Q .none (some (pi m))):CN (n+1) 5 [m] (some (.inst 2 [])) Q:=
 ao (fd:=i9) rfl rfl rfl (ab rfl h)
theorem u7 (m:T) (h:Q .none (some (kA m))):CN (n+1) 3 [m] (some (.inst 1 [])) Q:=
 ao (fd:=ja) rfl rfl rfl (ab rfl h)
theorem iG (k:Nat) (t:T) (h:Q .none (some (be k t))):CN (n+1) 14 [.str k,.int 0,.int 0,t] (some (.inst 6 [])) Q:=
 ao (fd:=k7) rfl rfl rfl (ab rfl (ab rfl (ab rfl (ab rfl h))))
theorem zH (a b c d:Int) (h:Q .none (some (sj a b c d))):CN (n+1) 11 [.int a,.int b,.int c,.int d] (some (.inst 5 [])) Q:=
 ao (fd:=l9) rfl rfl rfl (ab rfl (ab rfl (ab rfl (ab rfl h))))
theorem DQ (a b c d e f:T) (h:Q .none (some (qM a b c d e f))):CN (n+1) 16 [a,b,c,d,e,f] (some (.inst 7 [])) Q:=
 ao (fd:=oR) rfl rfl rfl (ab rfl (ab rfl (ab rfl (ab rfl (ab rfl (ab rfl h))))))
theorem Ld (a b c d e:T) (hd:d=.dict []) (he:e=.dict []) (h:Q .none (some (un a b c d e))):CN (n+1) 18 [a,b,c,d,e] (some (.inst 8 [])) Q:=by
 subst hd;subst he
 exact ao (fd:=j0) rfl rfl rfl (ab rfl (ab rfl (ab rfl (ab rfl (ab rfl (ab rfl (ab rfl h)))))))
theorem Gx (a b c:T) (h:Q .none (some (un a b c (.dict []) (.dict [])))):CN (n+1) 18 [a,b,c] (some (.inst 8 [])) Q:=
 ao (fd:=j0) rfl rfl rfl (ab rfl (ab rfl (ab rfl (ab rfl (ab rfl (ab rfl (ab rfl h)))))))
theorem Mj (a:T) (l:List T) (h:Q .none (some (zv a (.list l)))):CN (n+1) 20 [a,.list l] (some (.inst 9 [])) Q:=
 ao (fd:=jr) rfl rfl rfl (ab rfl (ab rfl (ab rfl h)))
theorem DZ (a b c:T) (h:Q .none (some (ID a b c))):CN (n+1) 22 [a,b,c] (some (.inst 10 [])) Q:=
 ao (fd:=k6) rfl rfl rfl (ab rfl (ab rfl (ab rfl h)))
theorem t8 (a:T) (l:List T) (h:Q .none (some (oA a (.list l)))):CN (n+1) 24 [a,.list l] (some (.inst 11 [])) Q:=
 ao (fd:=jA) rfl rfl rfl (ab rfl (ab rfl (ab rfl h)))
theorem wG (a b c:T) (h:Q .none (some (C6 a b c))):CN (n+1) 26 [a,b,c] (some (.inst 12 [])) Q:=
 ao (fd:=kO) rfl rfl rfl (ab rfl (ab rfl (ab rfl h)))
theorem tS (a b c:T) (d e:List T) (h:Q .none (some (yl a b c (.tup d) (.tup e)))):CN (n+1) 28 [a,b,c,.list d,.list e] (some (.inst 13 [])) Q:=
 ao (fd:=jn) rfl rfl rfl (ab rfl (ab rfl (ab rfl (ab rfl (ab rfl (ab rfl (ab rfl h)))))))
theorem tW (m:List (Int×Int)) (nd:(keys m).Nodup) (hl:m.length < 60) (h:Q .none (some (i5 (DI (m.filter fun p=>p.2 != 0))))) (ts:List T) (hts:ts=[]∨ts=[.none]):CN (n+1) 0 (DI m::ts) (some (.inst 0 [])) Q:=by
 have:=qY kI T.int (fun p:Int×Int=>T.int p.1) (fun p=>if p.2 != 0 then some p else none) (fun t:Slot=>[(2,t),(0,.own true (.inst 0 [])),(1,.val (DI m)),(3,.val .none)]) (Q:=fun l ρ=>aF 0 1 (ah (.dict l)) (CN n) (ρ.drop 1) fun _ ρ=>aF 0 3 (ae 3) (CN n) ρ fun fl ρ=>nu (some 0) ρ fun r'=>Q .none r')
  (ok:=fun _=>True) (g:=.one 2) (ifs:=bB (aD .NotEq (aZ (.v 1) (ae 2)) (.e (ah (.int 0)))) aI) (ek:=ae 2) (ev:=aZ (.v 1) (ae 2)) (C:=CN n) (fun _=>trivial) m (by lia)
  (fun p hp s K k=>?_) .unb fun s=>?_
 ·rw [show m.map (fun p:Int×Int=>T.int p.1)=(em kI T.int m).map (fun p=>cf p.1) from by rw [m9,cu];rfl] at this
  rcases hts with rfl | rfl
  ·exact ao (fd:=gA) rfl rfl rfl this
  ·exact ao (fd:=gA) rfl rfl rfl this
 ·have hv:=du nd (show (p.1,p.2)∈m from hp)
  refine ag (ab (bE kI T.int hv) (fX (fun q=>?_) fun q=>?_))
  ·refine ag (ab (bE kI T.int hv) ?_)
   have:=k (.val (.int p.1))
   rw [show (p.2 != 0)=true from q] at this;exact this
  ·have:=k (.val (.int p.1))
   rw [show (p.2 != 0)=false from q] at this;exact this
 ·rw [show m.filterMap (fun p=>if p.2 != 0 then some p else none)=m.filter fun p=>p.2 != 0 from (f7 (fun p:Int×Int=>p.2 != 0) id m).trans (List.map_id _),iH (nd.sublist (List.Sublist.map _ fM))]
  exact h
theorem u3 (a b c d:Int) (h:Q (.tup [.int a,.int b,.int c,.int d]) none):CN (n+1) 12 [sj a b c d] none Q:=
 ao (fd:=mx) rfl rfl rfl (ab rfl (ab rfl (ab rfl (ab rfl h))))
theorem yp (a b c d:Int) (h:Q (.bool (decide (a=0)&&(decide (b=0)&&(decide (c=0)&&(decide (d=0)&&true))))) none):CN (n+2) 13 [sj a b c d] none Q:=by
 refine ao (fd:=gO) rfl rfl rfl (ab rfl (u3 a b c d ?_))
 exact h
noncomputable def s8 [DecidableEq κ] (K:KE κ) (vf:ν→T) (m:List (κ×ν)) (k:κ):T:=.tup [K.t k,((b8 m k).map vf).getD .none]
theorem vF [DecidableEq κ] (K:KE κ) (vf:ν→T) {m:List (κ×ν)} {k:κ} {v:ν} (h:b8 m k=some v):s8 K vf m k=.tup [K.t k,vf v]:=by unfold s8;rw [h];rfl
theorem cA [DecidableEq κ] {m:List (κ×ν)} {k:κ} (h:k∈keys m):∃ v,b8 m k=some v:=Option.isSome_iff_exists.mp (fp.mpr h)
noncomputable def i4 (vf:ν→T) (m:List (Int×ν)):List T:=(canon (keys m)).map (s8 kI vf m)
theorem Gj (m:List (Int×Int)) (nd:(keys m).Nodup) (hl:m.length < 60) (h:Q (.tup (i4 .int m)) none):CN (n+1) 4 [kA (DI m)] none Q:=by
 refine ao (fd:=jc) rfl rfl rfl (ab (eH T.int nd hl) ?_)
 refine bc T.int (s8 kI T.int m) (fun t=>[(7,t),(0,.val (kA (DI m)))]) (fun _=>trivial) _ (fun x hx t K k=>?_) .unb fun t=>h
 obtain ⟨v,hv⟩:=cA (dL hx)
 rw [vF kI T.int hv] at k
 exact ab (bE kI T.int hv) (k _)
theorem Dc (m:List (Int×Int)) (nd:(keys m).Nodup) (hl:m.length < 60) (h:Q (.tup (.str 16::i4 .int m)) none):CN (n+1) 10 [fw (DI m)] none Q:=by
 refine ao (fd:=kM) rfl rfl rfl (ab (eH T.int nd hl) ?_)
 refine bc T.int (s8 kI T.int m) (fun t=>[(7,t),(0,.val (fw (DI m)))]) (fun _=>trivial) _ (fun x hx t K k=>?_) .unb fun t=>?_
 ·obtain ⟨v,hv⟩:=cA (dL hx)
  rw [vF kI T.int hv] at k
  exact ab (bE kI T.int hv) (k _)
 ·exact ab rfl (ab (G7 (by have:=bL (keys m);simp only [ba] at this ⊢;simp;lia)) h)
theorem CF (m:List (Int×Int)) (nd:(keys m).Nodup) (hl:m.length < 60) (h:Q (.tup [.tup (i4 .int m),.none]) none):CN (n+1) 2 [i5 (DI m)] none Q:=by
 refine ao (fd:=jW) rfl rfl rfl (ab (eH T.int nd hl) ?_)
 refine bc T.int (s8 kI T.int m) (fun t=>[(2,t),(0,.val (i5 (DI m))),(4,.unb)]) (fun _=>trivial) _ (fun x hx t K k=>?_) .unb fun t=>ag h
 obtain ⟨v,hv⟩:=cA (dL hx)
 rw [vF kI T.int hv] at k
 exact ab (bE kI T.int hv) (k _)
end
end
section
noncomputable def dT (n:Nat) (t u:T):Prop:=∃ f,EC mt t 5=some f∧∀ Q:T→Option T→Prop,Q u none→CN n f [t] none Q
theorem dT.go {t u:T} {K:T→Option T→Prop} (h:dT n t u) (k:K u none):fW (EC mt t 5) fun f=>CN n f [t] none K:=by
 obtain ⟨f,e,c⟩:=h
 exact ab e (c K k)
section
variable {n:Nat} {Q:T→Option T→Prop}
theorem oh (m:List (Int×Int)) (nd:(keys m).Nodup) (hl:m.length < 60):dT (n+1) (fw (DI m)) (.tup (.str 16::i4 .int m)):=⟨10,rfl,fun _ h=>Dc m nd hl h⟩
theorem qh (m:List (Int×Int)) (nd:(keys m).Nodup) (hl:m.length < 60):dT (n+1) (kA (DI m)) (.tup (i4 .int m)):=⟨4,rfl,fun _ h=>Gj m nd hl h⟩
theorem BS (m:List (Int×Int)) (nd:(keys m).Nodup) (hl:m.length < 60):dT (n+1) (i5 (DI m)) (.tup [.tup (i4 .int m),.none]):=⟨2,rfl,fun _ h=>CF m nd hl h⟩
noncomputable def live (l:List (Int×Int)):List (Int×Int):=l.foldl (fun f p=>if p.1∈keys f then f else f++[p]) []
theorem Fc (a b:Int) (h:Q (.bool (decide (a=b)&&true)) none):CN (n+1) 38 [.tup [.int a],.tup [.int b]] none Q:=
 ao (fd:=kW) rfl rfl rfl h
theorem Cq (f:List (Int×Int)) (p:Int×Int):((f.filter fun x=>decide (p.1=x.1)).map fun x=>T.tup [T.int x.1]).isEmpty=!decide (p.1∈keys f):=by
 induction f with
 | nil=>rfl
 | cons q f ih=>
  rw [List.filter_cons]
  by_cases h:p.1=q.1
  ·simp [h]
  ·simp only [h,decide_false,keys,c6,aU,false_or]
   simpa using ih
theorem wX (rows:List (Int×Int)) (hl:rows.length < 1000) (h:Q (.list ((live rows).map (gV true))) none):CN (n+2) 39 [.list (rows.map (gV true))] none Q:=by
 refine ao (fd:=ou) rfl rfl rfl (ag (And.intro rfl (ab rfl ?_)))
 refine cx (gV true) (fun s:List (Int×Int)×Slot×Slot=>[(4,.val (.list (rows.map (gV true)))),(54,.own false (.list (s.1.map (gV true)))),(43,s.2.1),(57,s.2.2)])
  (fun l s=>l.foldl (fun f p=>if p.1∈keys f then f else f++[p]) s.1=live rows∧s.1.length+l.length≤rows.length) ?_ ?_ rows ([],.unb,.unb) ⟨rfl,by simp⟩
 ·rintro p l ⟨f,s1,s2⟩ ⟨e,hn⟩ K k
  dsimp only at e hn
  have hn':f.length+(l.length+1)≤rows.length:=hn
  refine ab rfl (bg (gV true) (fun x=>decide (p.1=x.1)) (fun x=>T.tup [.int x.1]) (fun s:Slot×Slot=>[(70,s.1),(58,s.2),(4,.val (.list (rows.map (gV true)))),(54,.own false (.list (f.map (gV true)))),(43,.val (.tup [.int p.1])),(57,.val (.int p.2))]) (fun x=>(.val (.tup [.int x.1]),.val (.int x.2))) (fun _=>rfl) f (fun x hx s K k=>?_) (fun x hx hp K k=>k _) (.unb,.unb) fun s=>?_)
  ·refine ag (Fc p.1 x.1 ?_)
   induction q:decide (p.1=x.1) with
   | false=>rw [q] at k;exact k
   | true=>rw [q] at k;exact k
  ·refine ab (Dj (d:=1) (fun x hx=>?_) (by decide)) ?_
   ·obtain ⟨y,_,rfl⟩:=bo.mp hx
    exact .tup 0 _ fun z hz=>by rw [aV.mp hz];exact .int 0 _
   ·rw [Cq]
    by_cases q:p.1∈keys f
    ·rw [br q]
     refine k (f,.val (.tup [.int p.1]),.val (.int p.2)) ⟨?_,by dsimp only;lia⟩
     rw [List.foldl_cons,au q] at e;exact e
    ·rw [decide_eq_false q]
     refine ag (ab (au (by rw [ba];have:SZ=1048576:=rfl;lia)) ?_)
     have:=k (f++[p],.val (.tup [.int p.1]),.val (.int p.2)) ⟨by rw [List.foldl_cons,av q] at e;exact e,by dsimp only;rw [bS,List.length_singleton];lia⟩
     rw [show (f++[p]).map (gV true)=f.map (gV true)++[gV true p] from by simp] at this
     exact this
 ·rintro ⟨f,s1,s2⟩ ⟨e,_⟩
  dsimp only at e
  have e:f=live rows:=e
  subst e
  exact h
noncomputable abbrev gJ (l:List (Int×Int)):T:=.list (l.map (gV true))
noncomputable abbrev DL (m:List (Int×List (Int×Int))):T:=D kI gJ m
noncomputable def hZ (m:List (Int×List (Int×Int))) (k:Int):T:=.tup [.int k,.tup ((bh (live ((b8 m k).getD []))).map (gV true))]
noncomputable def oX (m:List (Int×List (Int×Int))):List T:=(canon (keys m)).map (hZ m)
theorem re (l f:List (Int×Int)) (nd:(keys f).Nodup):(keys (l.foldl (fun f p=>if p.1∈keys f then f else f++[p]) f)).Nodup∧(l.foldl (fun f p=>if p.1∈keys f then f else f++[p]) f).length≤f.length+l.length∧(f≠[]∨l≠[]→l.foldl (fun f p=>if p.1∈keys f then f else f++[p]) f≠[]):=by
 induction l generalizing f with
 | nil=>exact ⟨nd,Nat.le_refl _,fun h=>h.resolve_right fun h=>h rfl⟩
 | cons p l ih=>
  rw [List.foldl_cons]
  by_cases h:p.1∈keys f
  ·rw [au h]
   obtain ⟨h1,h2,h3⟩:=ih f nd
   exact ⟨h1,aH h2 (by simp),fun _=>h3 (.inl fun e=>by rw [e] at h;cases h)⟩
  ·rw [av h]
   obtain ⟨h1,h2,h3⟩:=ih (f++[p]) (by
    rw [keys,dJ,cD]
    exact ⟨nd,by simp,fun a ha b hb e=>h (by simp at hb;rw [← hb,← e];exact ha)⟩)
   exact ⟨h1,aH h2 (by simp;lia),fun _=>h3 (.inl (by simp))⟩
theorem sQ {l:List (κ×ν)} (h:(keys l).Nodup):l.Nodup:=List.Pairwise.of_map Prod.fst (fun a b h e=>h (by rw [e])) h
theorem yP (l:List (Int×Int)):(live l).Nodup:=sQ (re l [] cK).1
theorem Eh (l:List (Int×Int)):(live l).length≤l.length:=by have:=(re l [] cK).2.1;rw [List.length_nil,Nat.zero_add] at this;exact this
theorem Gz {l:List (Int×Int)} (h:l≠[]):live l≠[]:=(re l [] cK).2.2 (.inr h)
theorem BG {l:List (Int×Int)} (h:l≠[]):bh l≠[]:=fun e=>h (by have:=bI l;rw [e] at this;exact List.nil_perm.mp this)
theorem sm (l:List (Int×Int)):(bh l).length=l.length:=(bI l).length_eq
theorem wT (m:List (Int×List (Int×Int))) (nd:(keys m).Nodup) (hl:m.length < 60) (h4:∀ p∈m,p.2≠[]∧p.2.length≤4):dT (n+3) (pi (DL m)) (.tup (oX m)):=by
 refine ⟨6,rfl,fun Q h=>ao (fd:=i7) rfl rfl rfl (ab (eH gJ nd hl) ?_)⟩
 refine bc T.int (hZ m) (fun t=>[(9,t),(0,.val (pi (DL m))),(4,.unb)]) (fun _=>trivial) _ (fun x hx t K k=>?_) .unb fun t=>?_
 ·obtain ⟨v,hv⟩:=cA (dL hx)
  obtain ⟨h5,h6⟩:=h4 (x,v) (cW hv)
  have h6:v.length≤4:=h6
  refine ag (ab (bE kI gJ hv) ?_)
  refine wX v (by lia) ?_
  refine ab (wm (yP v) (aH (Eh v) h6)) ?_
  have:=k (.val (.int x))
  rw [show hZ m x=.tup [.int x,.tup ((bh (live v)).map (gV true))] from by unfold hZ;rw [hv];rfl] at this
  exact this
 ·have e:oX m=(canon (keys m)).map (hZ m):=rfl
  refine ag ?_
  refine bg (hZ m) (fun x=>true) (hZ m) (fun t=>[(10,t),(0,.val (pi (DL m))),(4,.val (.list ((canon (keys m)).map (hZ m))))]) (fun x=>.val (hZ m x)) (fun _=>trivial) _ (fun x hx t K k=>?_) (fun x hx _ K k=>?_) .unb fun t=>?_
  ·obtain ⟨v,hv⟩:=cA (dL hx)
   obtain ⟨h5,h6⟩:=h4 (x,v) (cW hv)
   refine ag (ab (Ig (d:=2) (fun y hy=>?_) (by decide)) ?_)
   ·obtain ⟨z,_,rfl⟩:=bo.mp hy
    exact .tup 1 _ fun w hw=>by
     rcases aU.mp hw with rfl | hw
     ·exact .tup 0 _ fun u hu=>by rw [aV.mp hu];exact .int 0 _
     ·rw [aV.mp hw];exact .int 1 _
   ·have hne:((bh (live ((b8 m x).getD []))).map (gV true)).isEmpty=false:=by
     rw [hv]
     induction q:(bh (live v)) with
     | nil=>exact absurd q (BG (Gz h5))
     | cons a l=>rw [Option.getD_some,q];rfl
    rw [hne]
    exact k
  ·exact k _
  ·rw [List.filter_eq_self.mpr (fun _ _=>rfl),← e];exact h
noncomputable abbrev fm (v:Int):T:=.tup [sj 0 0 v 0,sj 0 0 0 0]
noncomputable abbrev DA (m:List ((Int×Int)×Int)):T:=D kP fm m
theorem Aj (m:List ((Int×Int)×Int)) (h:Q (.bool false) none):CN (n+3) 41 [.dvals (em kP fm m)] none Q:=by
 have key:∀ Q:T→Env→Prop,(∀ s,Q (.list []) [(33,s),(11,.val (.dvals (em kP fm m)))])→cb (fun _=>True) (.one 33) (bB (qD (cQ (.e (cv mt (aZ (.v 33) (ah (.int 1))) 71 ak)))) aI) (ae 33) (CN (n+2)) (m.map fun p=>fm p.2) [(33,.unb),(11,.val (.dvals (em kP fm m)))] [] (fun l ρ=>Q (.list l) ρ):=by
  intro Q h
  refine bg (fun p:(Int×Int)×Int=>fm p.2) (fun _=>false) (fun p=>fm p.2) (fun t=>[(33,t),(11,.val (.dvals (em kP fm m)))]) (fun x=>.val (fm x.2)) (fun _=>trivial) m (fun x hx t K k=>?_) (fun x _ hf=>nomatch hf) .unb fun t=>?_
  ·exact ag (ab rfl (ab rfl (yp 0 0 0 0 k)))
  ·rw [List.filter_eq_nil_iff.mpr (fun _ _=>bO)];exact h t
 refine ao (fd:=jU) rfl rfl rfl ?_
 have:=key (fun t ρ=>gF .NotEq (ah t) (.e (bM ak)) (CN (n+2)) (ρ.drop 1) fun t ρ=>nu none ρ fun r=>Q t r) fun s=>h
 rw [show m.map (fun p:(Int×Int)×Int=>fm p.2)=(em kP fm m).map (·.2) from by unfold em;rw [cu];rfl] at this
 exact this
theorem zt (m:List ((Int×Int)×Int)) (h:Q .none (some (ed (DA m)))):CN (n+4) 7 [DA m] (some (.inst 3 [])) Q:=by
 refine ao (fd:=eP) rfl rfl rfl (ab rfl (ag (And.intro rfl (Aj m ?_))))
 exact h
theorem HT (m:List ((Int×Int)×Int)) (h:Q .none (some (ed (DA m)))):CN (n+4) 7 [DA m,.bool false] (some (.inst 3 [])) Q:=by
 refine ao (fd:=eP) rfl rfl rfl (ab rfl (ag (And.intro rfl (Aj m ?_))))
 exact h
noncomputable def lN (m:List ((Int×Int)×Int)) (k:Int×Int):T:=.tup [kP.t k,.tup [.tup [.int 0,.int 0,.int ((b8 m k).getD 0),.int 0],.tup [.int 0,.int 0,.int 0,.int 0]]]
noncomputable def k5 (m:List ((Int×Int)×Int)):List T:=(bh (keys m)).map (lN m)
theorem xx (v:Int) (h:Q (.tup [.tup [.int 0,.int 0,.int v,.int 0],.tup [.int 0,.int 0,.int 0,.int 0]]) none):CN (n+2) 40 [fm v] none Q:=by
 refine ao (fd:=ol) rfl rfl rfl (ag (ab rfl (ab rfl (u3 0 0 v 0 ?_))))
 refine ag (ab rfl (ab rfl (u3 0 0 0 0 ?_)))
 exact h
theorem AI (m:List ((Int×Int)×Int)) (nd:(keys m).Nodup) (hl:m.length≤4):dT (n+3) (ed (DA m)) (.tup [.str 14,.bool false,.tup (k5 m)]):=by
 refine ⟨8,rfl,fun Q h=>ao (fd:=g5) rfl rfl rfl (ab (kh fm nd hl) ?_)⟩
 refine bc kP.t (lN m) (fun t=>[(13,t),(0,.val (ed (DA m))),(4,.unb)]) (fun _=>trivial) _ (fun x hx t K k=>?_) .unb fun t=>?_
 ·obtain ⟨v,hv⟩:=cA (g7 hx)
  refine ag (ab (bE kP fm hv) ?_)
  refine xx v ?_
  have:=k (.val (kP.t x))
  rw [show lN m x=.tup [kP.t x,.tup [.tup [.int 0,.int 0,.int v,.int 0],.tup [.int 0,.int 0,.int 0,.int 0]]] from by unfold lN;rw [hv];rfl] at this
  exact this
 ·exact ag h
theorem fK (kind:Nat) {t u:T} (ht:dT n t u):dT (n+1) (be kind (.list [t])) (.tup [.str kind,.int 0,.int (-1),.tup [u]]):=by
 refine ⟨15,rfl,fun Q h=>ao (fd:=kZ) rfl rfl rfl (ag ?_)⟩
 refine dU (ht.go ?_)
 exact ag (cJ h)
theorem uR (tag:T) (l:List T):dT (n+1) (oA tag (.list l)) (.tup [tag,.tup l]):=⟨25,rfl,fun Q h=>ao (fd:=jT) rfl rfl rfl h⟩
theorem B7 (r:T) (l:List T):dT (n+1) (zv r (.list l)) (.tup [r,.tup l]):=⟨21,rfl,fun Q h=>ao (fd:=jG) rfl rfl rfl h⟩
theorem xt (tag:T) {d u:T} (hd:dT n d u) (nn:bZ d=false):dT (n+1) (ID tag d (.dict [])) (.tup [tag,u,.tup []]):=by
 refine ⟨23,rfl,fun Q h=>ao (fd:=kS) rfl rfl rfl (cJ ?_)⟩
 refine ag ?_
 refine fQ nn ?_
 exact hd.go h
theorem wu {s us f uf:T} (ls:List α) (mk tl:α→T) (hs:dT n s us) (hf:dT n f uf) (hl:∀ x∈ls,dT n (mk x) (tl x)) :
  dT (n+1) (C6 (.dict [(.S 103,s)]) (.list [f]) (.list (ls.map mk))) (.tup [.tup [us],.tup [uf],.tup (ls.map tl)]):=by
 refine ⟨27,rfl,fun Q h=>ao (fd:=kQ) rfl rfl rfl ?_⟩
 refine dU (hs.go ?_)
 refine ag (cJ (ag ?_))
 refine dU (hf.go ?_)
 refine ag (cJ (ag ?_))
 refine bc mk tl (fun t=>[(47,t),(0,.val (C6 (.dict [(.S 103,s)]) (.list [f]) (.list (ls.map mk)))),(45,.val (.tup [us])),(39,.val (.tup [uf]))]) (fun _=>trivial) _ (fun x hx t K k=>?_) .unb fun t=>h
 exact (hl x hx).go (k _)
theorem Bd (m:List (Int×Int)) (nd:(keys m).Nodup) (hl:m.length < 60):dT (n+2) (un (kA (DI m)) (kA (DI [])) (.list []) (.dict []) (.dict [])) (.tup [.tup (i4 .int m),.tup [],.tup [],.tup [],.tup []]):=by
 refine ⟨19,rfl,fun Q h=>ao (fd:=oy) rfl rfl rfl (cJ ?_)⟩
 refine ag (cJ (ag ?_))
 refine (qh m nd hl).go ?_
 refine (qh [] cK (by decide)).go ?_
 exact cJ h
theorem xg (a b c d e:T):dT (n+1) (yl a b c d e) (.tup [a,b,c,d,e]):=⟨29,rfl,fun Q h=>ao (fd:=j1) rfl rfl rfl h⟩
theorem kD {t u:T} (h0:(t=.none∧u=.none)∨(bZ t=false∧dT n t u)) (h:Q u none):CN (n+1) 51 [t] none Q:=by
 rcases h0 with ⟨rfl,rfl⟩ | ⟨h1,h2⟩
 ·exact ao (fd:=ie) rfl rfl rfl h
 ·refine ao (fd:=ie) rfl rfl rfl (fQ h1 ?_)
  exact h2.go h
theorem Bp {c uc g ug s us p up:T} {md me:List T} (kern:List ((Int×Int)×Int)) (a1 a2 a3:T) (nd:(keys kern).Nodup) (hl:kern.length≤4) (hc:dT (n+1) c uc) (hg:dT (n+1) g ug)
  (hs:(s=.none∧us=.none)∨(bZ s=false∧dT n s us)) (hp:(p=.none∧up=.none)∨(bZ p=false∧dT n p up)) :
  dT (n+2) (qM c (yl a1 a2 a3 (.tup md) (.tup me)) g s p (D kP T.int kern)) (.tup [uc,.tup [a1,a2,a3,.tup md,.tup me],ug,us,up,.tup ((bh (keys kern)).map (s8 kP T.int kern))]):=by
 refine ⟨17,rfl,fun Q h=>ao (fd:=oV) rfl rfl rfl ?_⟩
 refine hc.go ((xg a1 a2 a3 (.tup md) (.tup me)).go (hg.go (ag ?_)))
 refine kD hs (ag ?_)
 refine kD hp ?_
 refine ab (kh T.int nd hl) ?_
 refine bc kP.t (s8 kP T.int kern) (fun t=>[(33,t),(0,.val (qM c (yl a1 a2 a3 (.tup md) (.tup me)) g s p (D kP T.int kern)))]) (fun _=>trivial) _ (fun x hx t K k=>?_) .unb fun t=>h
 obtain ⟨v,hv⟩:=cA (g7 hx)
 rw [vF kP T.int hv] at k
 exact ab (bE kP T.int hv) (k _)
end
end
section
theorem jR {a b:Int} (h:0 < b):tw .Mod (.int a) (.int b)=some (.int (a % b)):=au h
theorem w9 {a b:Int} (h:0 < b∧b < 1073741824):tw .FloorDiv (.int a) (.int b)=some (.int (a / b)):=au h
theorem wt {a:Int} (h0:0≤a) (h1:a < 18446744073709551616):small a=true:=by unfold small;exact br (by lia)
theorem lZ {a:Int} (h0:0≤a) (h1:a < 18446744073709551616):tw .Pow (.int a) (.int 3)=some (.int (a ^ 3)):=au (by rw [wt h0 h1];rfl)
theorem mm {a b:Int} (h0:0≤a) (h1:a < 18446744073709551616):tw .Mult (.int a) (.int b)=some (.int (a*b)):=au (by rw [wt h0 h1];rfl)
noncomputable abbrev Mg (cells:List Int) (seat great:Int):T:=.list [.list (cells.map .int),.int seat,.int great]
structure jD where
 cells:List Int
 seat:Int
 great:Int
noncomputable abbrev jD.t (p:jD):T:=Mg p.cells p.seat p.great
noncomputable def jD.ok (p:jD) (k:Int):Prop:=0≤p.seat∧p.seat≤k
theorem eK (a:Int) {b:Int} (h:0 < b):0≤a % b∧a % b < b:=⟨Int.emod_nonneg a (by lia),Int.emod_lt_of_pos a h⟩
theorem M6 (l:List Int):qO (.list (l.map T.int))=some (!l.isEmpty):=by induction l<;>rfl
theorem OT (l:List Int):bi .len (.list (l.map T.int))=some (.int l.length):=aw (fun n:Nat=>some (T.int n)) (ba _)
theorem DE {l:List Int} {i:Int} (h0:0≤i) (h:i < l.length):getItem (.list (l.map T.int)) (.int i)=some (.int (l.getD i.toNat 0)):=by
 show (idxOf i (l.map T.int).length).bind (fun j=>(l.map T.int)[j]?)=_
 unfold idxOf
 rw [au h0,au (by rw [ba];lia),fR,dO,g9]
 rw [cj (by lia)];rfl
theorem GL {Q:T→Option T→Prop} (many:Int) (hm:0 < many∧many < 1000) (cells:List Int) (seat great k:Int) (h1:0≤seat) (h2:seat≤k) (hk:k < 10000)
  (h:∀ (d:Int) (p':jD),0≤d→d < many→p'.ok (k+1)→Q (.int d) (some p'.t)):CN (n+1) 71 [.int many] (some (Mg cells seat great)) Q:=by
 have hm':0 < many∧many < 1073741824:=⟨hm.1,by lia⟩
 have fin:∀ g d:Int,0≤d→d < many→Q (.int d) (some (Mg cells (seat+1) g)):=fun g d a b=>h d ⟨cells,seat+1,g⟩ a b ⟨by dsimp only;lia,by dsimp only;lia⟩
 refine ao (fd:=qB) rfl rfl rfl (ag (fX (fun hg=>?_) fun hg=>?_))
 ·refine ag (ab (jR hm.1) (ag (ag ?_)))
  refine ab (w9 hm') (ag ?_)
  exact h _ ⟨cells,seat,great / many⟩ (eK great hm.1).1 (eK great hm.1).2 ⟨h1,by dsimp only;lia⟩
 ·refine ag (ag (ag ?_))
  refine ag (fX (fun hc=>?_) fun hc=>?_)
  ·have hl:0 < ((cells.map T.int).length:Int):=by
    induction cells with
    | nil=>exact bt hc
    | cons a l=>simp
   refine ag (ag (ab (jR hl) ?_))
   obtain ⟨m0,m1⟩:=eK seat hl
   refine ab (DE (l:=cells) m0 (by simpa using m1)) (ag ?_)
   have hcell:=eK (cells.getD (seat % ((cells.map T.int).length:Int)).toNat 0) (b:=2147483629) (by decide)
   refine ag ?_
   refine fX (fun ha=>fX (fun hb=>?_) fun hb=>?_) fun ha=>?_
   ·refine ag (ab (w9 hm') (ag ?_))
    exact ab (jR hm.1) (fin _ _ (eK _ hm.1).1 (eK _ hm.1).2)
   all_goals
    refine ab (lZ (by lia) (by lia)) (ag ?_)
    generalize (cells.getD (seat % ((cells.map T.int).length:Int)).toNat 0 % 2147483629+40503*seat+977) ^ 3=z
    refine ab (mm (eK z (by decide)).1 (by lia)) ?_
    refine ab (mm h1 (by lia)) ?_
    have hz:=eK z (b:=2147483587) (by decide)
    have hm1:0≤z % 2147483587*(2*seat+5003):=Int.mul_nonneg hz.1 (by lia)
    have hm2:z % 2147483587*(2*seat+5003)≤2147483587*25003:=Int.mul_le_mul (by lia) (by lia) (by lia) (by decide)
    have hm3:0≤seat*seat:=Int.mul_nonneg h1 h1
    have hm4:seat*seat≤10000*10000:=Int.mul_le_mul (by lia) (by lia) h1 (by decide)
    refine ab rfl (ab (lZ (by lia) (by lia)) (ag ?_))
    exact ab (jR hm.1) (fin _ _ (eK _ hm.1).1 (eK _ hm.1).2)
  ·refine ag (ag ?_)
   refine fX (fun ha=>?_) fun ha=>?_
   all_goals
    refine ab (lZ (by lia) (by lia)) (ag ?_)
    generalize ((0:Int) % 2147483629+40503*seat+977) ^ 3=z
    refine ab (mm (eK z (by decide)).1 (by lia)) ?_
    refine ab (mm h1 (by lia)) ?_
    have hz:=eK z (b:=2147483587) (by decide)
    have hm1:0≤z % 2147483587*(2*seat+5003):=Int.mul_nonneg hz.1 (by lia)
    have hm2:z % 2147483587*(2*seat+5003)≤2147483587*25003:=Int.mul_le_mul (by lia) (by lia) (by lia) (by decide)
    have hm3:0≤seat*seat:=Int.mul_nonneg h1 h1
    have hm4:seat*seat≤10000*10000:=Int.mul_le_mul (by lia) (by lia) h1 (by decide)
    refine ab rfl (ab (lZ (by lia) (by lia)) (ag ?_))
    exact ab (jR hm.1) (fin _ _ (eK _ hm.1).1 (eK _ hm.1).2)
theorem dE {Q:T→Option T→Prop} (many:Int) (hm:0 < many∧many < 1000) (p:jD) (k:Int) (hp:p.ok k) (hk:k < 10000)
  (h:∀ (d:Int) (p':jD),0≤d→d < many→p'.ok (k+1)→Q (.int d) (some p'.t)):CN (n+1) 71 [.int many] (some p.t) Q:=GL many hm p.cells p.seat p.great k hp.1 hp.2 hk h
end
section
inductive bj | sg (m:List (Int×Int)) | lg (l:List (Int×Int×Int))
noncomputable abbrev je (p:Int×Int×Int):T:=.tup [.int p.1,.int p.2.1,.int p.2.2]
noncomputable abbrev Px (p:Int×Int):T:=.tup [.int p.1,.int p.2]
noncomputable abbrev bj.t:bj→T
 | .sg m=>.tup [.str 16,DI m]
 | .lg l=>.tup [.str 57,.list (l.map je)]
noncomputable def gl (g:Int):Prop:=0≤g∧g < 12
noncomputable def bj.ok:bj→Prop
 | .sg m=>(keys m).Nodup∧m.length≤3∧∀ p∈m,gl p.1∧gl p.2
 | .lg l=>l.length≤3∧∀ p∈l,gl p.1∧gl p.2.1∧gl p.2.2
theorem fq {d:Int} (h0:0≤d) (h1:d < 1000):bi .range (.int d)=some (.rng d.toNat):=au ⟨h0,by have:(SZ:Int)=1048576:=rfl;lia⟩
noncomputable abbrev dZ (i:Nat):T:=.int (Int.ofNat i)
theorem K6 {Q:T→Option T→Prop} (p:jD) (hp:p.ok 0) (h:∀ (rows:List bj) (p':jD),rows.length≤4→(∀ r∈rows,r.ok)→p'.ok 50→Q (.list (rows.map bj.t)) (some p'.t)):CN (n+2) 73 [] (some p.t) Q:=by
 refine ao (fd:=qk) rfl rfl rfl (ag (ag ?_))
 refine dE 5 (by decide) p 0 hp (by decide) fun d p1 d0 d1 hp1=>?_
 refine ab rfl (ab (fq d0 (by lia)) (And.intro rfl (ab rfl ?_)))
 refine cx dZ (fun s:jD×List bj×Slot=>[(96,.own true s.1.t),(4,.own false (.list (s.2.1.map bj.t))),(105,s.2.2)])
  (fun l s=>s.2.1.length+l.length≤4∧s.1.ok (1+10*s.2.1.length)∧∀ r∈s.2.1,r.ok) ?_ ?_ (List.range d.toNat) (p1,[],.unb) ⟨by rw [ei];show 0+_≤4;lia,⟨hp1.1,by simpa using hp1.2⟩,fun _ h=>nomatch h⟩
 ·rintro i l ⟨p,rows,s⟩ ⟨h1,h2,h3⟩ K k
  dsimp only at h1 h2 h3
  have h1:rows.length+(l.length+1)≤4:=h1
  have add:∀ (r:bj) (p':jD) s',r.ok→p'.ok (1+10*(rows.length+1))→K .next [(96,.own true p'.t),(4,.own false (.list (rows.map bj.t++[r.t]))),(105,s')]:=fun r p' s' hr hp'=>by
   have:=k (p',rows++[r],s') ⟨by dsimp only;rw [bS,List.length_singleton];lia,by dsimp only;rw [bS,List.length_singleton];exact hp',fun x hx=>by
    rcases cH.mp hx with hx | hx
    ·exact h3 x hx
    ·rw [aV.mp hx];exact hr⟩
   rw [show (rows++[r]).map bj.t=rows.map bj.t++[r.t] from by simp] at this
   exact this
  have app:∀ t,GW (.list (rows.map bj.t)) t=some (.list (rows.map bj.t++[t])):=fun t=>au (by rw [ba];have:SZ=1048576:=rfl;lia)
  refine ag ?_
  refine dE 2 (by decide) p _ h2 (by lia) fun d p1 d0 d1 hp1=>?_
  refine ab rfl ?_
  refine fX (fun hd=>?_) fun hd=>?_
  ·refine ag ?_
   have fin:∀ bs:List (Int×Int),bs.length=3→(∀ b∈bs,gl b.1∧gl b.2)→(bj.sg (ip bs)).ok:=fun bs hb hg=>⟨hE bs,by have:=kg bs;lia,fun p hp=>hg p (tC hp)⟩
   refine eO (ok:=fun _=>True) dZ Px (fun s:Slot×jD=>[(106,s.1),(96,.own true s.2.t),(4,.own false (.list (rows.map bj.t))),(105,.val (dZ i))])
    (fun l bs s=>bs.length+l.length=3∧s.2.ok (2+10*rows.length+2*bs.length)∧∀ b∈bs,gl b.1∧gl b.2) (fun _=>trivial) ?_ (List.range 3) (.unb,p1) ⟨rfl,?_,fun _ h=>nomatch h⟩ ?_
   ·rintro j l bs ⟨s,q⟩ ⟨g1,g2,g3⟩ K k1 k2
    dsimp only at g2
    have g1:bs.length+(l.length+1)=3:=g1
    refine ag ?_
    refine dE 12 (by decide) q _ g2 (by lia) fun a q1 a0 a1 hq1=>?_
    refine ab rfl (ag ?_)
    refine dE 12 (by decide) q1 _ hq1 (by lia) fun b q2 b0 b1 hq2=>?_
    refine ab rfl ?_
    exact k1 (a,b) (.val (dZ j),q2) ⟨by rw [bS,List.length_singleton];lia,⟨hq2.1,by have:=hq2.2;rw [bS,List.length_singleton];dsimp only;lia⟩,fun x hx=>by
     rcases cH.mp hx with hx | hx
     ·exact g3 x hx
     ·refine Eq.symm (aV.mp hx)▸?_;exact ⟨⟨a0,a1⟩,b0,b1⟩⟩
   ·exact ⟨hp1.1,by have:=hp1.2;dsimp only;simp only [List.length_nil];lia⟩
   ·rintro bs ⟨s,q⟩ ⟨g1,g2,g3⟩
    dsimp only at g2
    have g1:bs.length=3:=g1
    refine ab (iU kI T.int bs (by have:SZ=1048576:=rfl;lia)) ?_
    refine ab (app _) ?_
    exact add (.sg (ip bs)) q (.val (dZ i)) (fin bs g1 g3) ⟨g2.1,by have:=g2.2;lia⟩
  ·refine ag ?_
   refine eO (ok:=fun _=>True) dZ je (fun s:Slot×jD=>[(106,s.1),(96,.own true s.2.t),(4,.own false (.list (rows.map bj.t))),(105,.val (dZ i))])
    (fun l bs s=>bs.length+l.length=3∧s.2.ok (2+10*rows.length+3*bs.length)∧∀ b∈bs,gl b.1∧gl b.2.1∧gl b.2.2) (fun _=>trivial) ?_ (List.range 3) (.unb,p1) ⟨rfl,?_,fun _ h=>nomatch h⟩ ?_
   ·rintro j l bs ⟨s,q⟩ ⟨g1,g2,g3⟩ K k1 k2
    dsimp only at g2
    have g1:bs.length+(l.length+1)=3:=g1
    refine ag ?_
    refine dE 12 (by decide) q _ g2 (by lia) fun a q1 a0 a1 hq1=>?_
    refine ab rfl (ag ?_)
    refine dE 12 (by decide) q1 _ hq1 (by lia) fun b q2 b0 b1 hq2=>?_
    refine ab rfl (ag ?_)
    refine dE 12 (by decide) q2 _ hq2 (by lia) fun c q3 c0 c1 hq3=>?_
    refine ab rfl ?_
    exact k1 (a,b,c) (.val (dZ j),q3) ⟨by rw [bS,List.length_singleton];lia,⟨hq3.1,by have:=hq3.2;rw [bS,List.length_singleton];dsimp only;lia⟩,fun x hx=>by
     rcases cH.mp hx with hx | hx
     ·exact g3 x hx
     ·refine Eq.symm (aV.mp hx)▸?_;exact ⟨⟨a0,a1⟩,⟨b0,b1⟩,c0,c1⟩⟩
   ·exact ⟨hp1.1,by have:=hp1.2;dsimp only;simp only [List.length_nil];lia⟩
   ·rintro bs ⟨s,q⟩ ⟨g1,g2,g3⟩
    dsimp only at g2
    have g1:bs.length=3:=g1
    refine ab (app _) ?_
    exact add (.lg bs) q (.val (dZ i)) ⟨by lia,g3⟩ ⟨g2.1,by have:=g2.2;lia⟩
 ·rintro ⟨p,rows,s⟩ ⟨h1,h2,h3⟩
  have h1:rows.length+0≤4:=h1
  have h2:p.ok (1+10*rows.length):=h2
  exact h rows p h1 h3 ⟨h2.1,by have:=h2.2;lia⟩
end
section
noncomputable def rY (m:List (Int×List (Int×Int))) (p:Int×Int×Int):List (Int×List (Int×Int)):=eJ m p.1 ((b8 m p.1).getD []++[p.2])
noncomputable def aQ (l:List (Int×Int×Int)):List (Int×List (Int×Int)):=l.foldl rY []
theorem Hx (m:List (Int×List (Int×Int))) (p:Int×Int×Int) (g:Int):(b8 (rY m p) g).getD []=(b8 m g).getD []++(if p.1=g then [p.2] else []):=by
 unfold rY
 rw [FR]
 by_cases h:p.1=g
 ·rw [au h,au h,h];rfl
 ·rw [av h,av h,cr]
theorem Dq (l:List (Int×Int×Int)) (m:List (Int×List (Int×Int))) (g:Int):(b8 (l.foldl rY m) g).getD []=(b8 m g).getD []++((l.filter fun p=>decide (p.1=g)).map (·.2)):=by
 induction l generalizing m with
 | nil=>simp
 | cons p l ih=>
  rw [List.foldl_cons,ih,Hx,List.filter_cons]
  by_cases h:p.1=g<;>simp [h]
theorem fL (l:List (Int×Int×Int)) (g:Int):(b8 (aQ l) g).getD []=(l.filter fun p=>decide (p.1=g)).map (·.2):=Dq l [] g
theorem x9 (l:List (Int×Int×Int)) (m:List (Int×List (Int×Int))) (g:Int):g∈keys (l.foldl rY m)↔g∈keys m∨∃ p∈l,p.1=g:=by
 induction l generalizing m with
 | nil=>simp
 | cons p l ih=>
  rw [List.foldl_cons,ih,rY,eh]
  constructor
  ·rintro ((h | h) | ⟨q,hq,h⟩)
   ·exact .inl h
   ·exact .inr ⟨p,.head _,h.symm⟩
   ·exact .inr ⟨q,.tail _ hq,h⟩
  ·rintro (h | ⟨q,hq,h⟩)
   ·exact .inl (.inl h)
   ·rcases aU.mp hq with rfl | hq
    ·exact .inl (.inr h.symm)
    ·exact .inr ⟨q,hq,h⟩
theorem iM (l:List (Int×Int×Int)) (g:Int):g∈keys (aQ l)↔∃ p∈l,p.1=g:=by
 have:=x9 l [] g
 unfold aQ
 simpa [keys] using this
structure Gd (m:List (Int×List (Int×Int))) (k:Nat):Prop where
 nd:(keys m).Nodup
 len:m.length≤k
 rows:∀ p∈m,p.2≠[]∧p.2.length≤k
theorem Gd.put {m:List (Int×List (Int×Int))} {k:Nat} (h:Gd m k) (p:Int×Int×Int):Gd (rY m p) (k+1):=by
 refine ⟨eA h.nd,aH (iw _ _ _).2 (gR h.len),fun q hq=>?_⟩
 rcases w6 hq with hq | rfl
 ·exact ⟨(h.rows q hq).1,Nat.le_succ_of_le (h.rows q hq).2⟩
 ·refine ⟨by simp,?_⟩
  induction e:b8 m p.1 with
  | none=>simp
  | some v=>have:=(h.rows _ (cW e)).2;simp;exact this
theorem Gd.fold (l:List (Int×Int×Int)):∀ {m:List (Int×List (Int×Int))} {k:Nat},Gd m k→Gd (l.foldl rY m) (k+l.length):=by
 induction l with
 | nil=>exact fun h=>h
 | cons p l ih=>
  intro m k h
  have:=ih (h.put p)
  rw [show k+1+l.length=k+(p::l).length by simp;lia] at this
  exact this
theorem jh {l:List (Int×Int×Int)}:Gd (aQ l) l.length:=by
 have:=Gd.fold l (m:=[]) (k:=0) ⟨cK,Nat.le_refl _,fun _ h=>nomatch h⟩
 rwa [Nat.zero_add] at this
noncomputable abbrev bj.look:bj→T
 | .sg m=>be 16 (.list [fw (DI m)])
 | .lg l=>be 57 (.list [pi (DL (aQ l))])
section
variable {n:Nat} {Q:T→Option T→Prop}
theorem AT {m:List (Int×Int)} (h:m.length≤8):bi .dict (DI m)=some (DI m):=by
 show (if jv (em kI T.int m)=true then some (T.dict _) else none)=_
 rw [au]
 unfold jv em
 rw [ba,br h,Bool.true_and,Bool.or_eq_true]
 left
 rw [List.all_map,aY]
 intro p _;rfl
theorem xO {r:bj} (hr:match r with | .sg m=>m.length≤8 | .lg l=>l.length < 100) (h:Q r.look none):CN (n+2) 74 [r.t] none Q:=by
 induction r with
 | sg m=>
  refine ao (fd:=iN) rfl rfl rfl (ag ?_)
  refine ag (ab (AT hr) (And.intro (by decide) (wZ _ (And.intro rfl ?_))))
  exact And.intro (by decide) (iG _ _ (And.intro rfl h))
 | lg l=>
  refine ao (fd:=iN) rfl rfl rfl (ag (ag (ag (And.intro rfl ?_))))
  refine cx je (fun s:List (Int×List (Int×Int))×Slot×Slot×Slot=>[(10,.val (bj.lg l).t),(8,.own false (DL s.1)),(9,s.2.1),(107,s.2.2.1),(63,s.2.2.2)])
   (fun r s=>∃ done,l=done++r∧s.1=done.foldl rY []∧Gd s.1 done.length) ?_ ?_ l ([],.unb,.unb,.unb) ⟨[],rfl,rfl,⟨cK,Nat.le_refl _,fun _ h=>nomatch h⟩⟩
  ·rintro p r ⟨m,s1,s2,s3⟩ ⟨done,e,em',gk⟩ K k
   dsimp only at em' gk
   have hl:done.length < 100:=by
    have hr:l.length < 100:=hr
    rw [e,bS] at hr;lia
   refine And.intro rfl (ab (lr kI gJ m p.1 (.list [])) ?_)
   have hg:((b8 m p.1).map gJ).getD (.list [])=gJ ((b8 m p.1).getD []):=by cases b8 m p.1<;>rfl
   rw [hg]
   have hrl:((b8 m p.1).getD []).length≤done.length:=by
    induction e:b8 m p.1 with
    | none=>exact ck _
    | some v=>exact (gk.rows _ (cW e)).2
   refine ab (add_list (by simp;lia)) (ag ?_)
   rw [show ((b8 m p.1).getD []).map (gV true)++[T.tup [.tup [.int p.2.1],.int p.2.2]]=((b8 m p.1).getD []++[p.2]).map (gV true) from by rw [dJ];rfl]
   refine ab (gc kI gJ gk.nd (by have:=gk.len;have:SZ=1048576:=rfl;lia) p.1 _) ?_
   exact k (rY m p,.val (.int p.1),.val (.int p.2.1),.val (.int p.2.2)) ⟨done++[p],by rw [e];simp,by rw [List.foldl_append,← em'];rfl,by rw [bS];exact gk.put p⟩
  ·rintro ⟨m,s1,s2,s3⟩ ⟨done,e,em',gk⟩
   dsimp only at em' gk
   rw [cr] at e
   subst e
   have em':m=aQ l:=em'
   subst em'
   refine And.intro (by decide) (IT _ (And.intro rfl ?_))
   exact And.intro (by decide) (iG _ _ (And.intro rfl h))
end
end
section
noncomputable def bj.cl (r:bj) (P:Int→Prop):Prop:=match r with
 | .sg m=>∀ p∈m,P p.1→P p.2
 | .lg l=>∀ p∈l,P p.1→P p.2.1→P p.2.2
structure OQ (base:List Int) (R:List bj) (S:List Int):Prop where
 sub:∀ x∈base,x∈S
 least:∀ P:Int→Prop,(∀ x∈base,P x)→(∀ r∈R,r.cl P)→∀ x∈S,P x
 clos:∀ r∈R,r.cl (·∈S)
theorem OQ.ext {S':List Int} {R:List bj} (h:OQ base R S) (h':OQ base R S') (x:Int):x∈S↔x∈S':=
 ⟨h.least (·∈S') h'.sub h'.clos x,h'.least (·∈S) h.sub h.clos x⟩
noncomputable abbrev HS (hs:List Int):T:=D kI (fun _:Unit=>T.bool true) (hs.map fun k=>(k,()))
noncomputable def hV (hs:List Int) (k:Int):List Int:=if k∈hs then hs else hs++[k]
theorem g8 (hs:List Int):keys (hs.map fun k=>(k,()))=hs:=by
 rw [keys,cu];exact List.map_id _
theorem zW (hs:List Int) (k:Int):eJ (hs.map fun k=>(k,())) k ()=(hV hs k).map fun k=>(k,()):=by
 unfold hV
 by_cases h:k∈hs
 ·rw [au h]
  induction hs with
  | nil=>exact nomatch h
  | cons a hs ih=>
   rw [c6,eJ]
   by_cases e:a=k
   ·rw [au e]
   ·rw [av e,ih ((aU.mp h).resolve_left (Ne.symm e))]
 ·rw [av h,j2 _ (by rw [g8];exact h),dJ];rfl
theorem CT (hs:List Int) (k:Int):(b8 (hs.map fun k=>(k,())) k).isSome=decide (k∈hs):=by
 have:=fp (m:=hs.map fun k=>(k,())) (k:=k)
 rw [g8] at this
 induction h:(b8 (hs.map fun k=>(k,())) k).isSome with
 | true=>exact (br (this.mp h)).symm
 | false=>exact (decide_eq_false fun c=>by rw [this.mpr c] at h;exact nomatch h).symm
theorem rV (nd:hs.Nodup) (hl:hs.length < 1000) (k:Int):jJ (HS hs) (.int k) (.bool true)=some (HS (hV hs k)):=by
 have:=gc kI (fun _:Unit=>T.bool true) (m:=hs.map fun k=>(k,())) (by rw [g8];exact nd) (by rw [ba];have:SZ=1048576:=rfl;lia) k ()
 rw [zW] at this;exact this
theorem Ol (hs:List Int) (k:Int):ky .In (.int k) (HS hs)=some (decide (k∈hs)):=by rw [jN kI,CT]
theorem PK (hs:List Int):bi .len (HS hs)=some (.int hs.length):=by rw [Kn,ba]
theorem gm (nd:hs.Nodup) (hl:hs.length < 60):bi .sorted (HS hs)=some (.list ((canon hs).map .int)):=by
 rw [eH _ (by rw [g8];exact nd) (by rw [ba];exact hl),g8]
theorem Aa {l:List Int} (nd:l.Nodup) (hl:l.length < 1000):bi .dict (.list (l.map fun k=>.tup [.int k,.bool true]))=some (HS l):=by
 have:=iU kI (fun _:Unit=>T.bool true) (l.map fun k=>(k,())) (by rw [ba];have:SZ=1048576:=rfl;lia)
 rw [iH (by rw [g8];exact nd),cu] at this
 exact this
structure Gr (rs:List bj) (hs hs':List Int):Prop where
 pre:hs <+: hs'
 nd:hs'.Nodup
 gl:∀ x∈hs',gl x
 least:∀ P:Int→Prop,(∀ x∈hs,P x)→(∀ r∈rs,r.cl P)→∀ x∈hs',P x
theorem Gr.refl (nd:hs.Nodup) (g:∀ x∈hs,Nc.gl x):Gr rs hs hs:=⟨List.prefix_refl _,nd,g,fun _ h _=>h⟩
theorem Gr.trans {c:List Int} (x:Gr rs a b) (y:Gr rs b c):Gr rs a c:=⟨x.pre.trans y.pre,y.nd,y.gl,fun P h hr=>y.least P (x.least P h hr) hr⟩
theorem Gr.more {rs':List bj} (x:Gr rs a b) (h:∀ r∈rs,r∈rs'):Gr rs' a b:=⟨x.pre,x.nd,x.gl,fun P hp hr=>x.least P hp fun r m=>hr r (h r m)⟩
theorem jS (nd:hs.Nodup) (g:∀ x∈hs,gl x):hs.length≤12:=by
 have h:(hs.map Int.toNat).Nodup:=by
  rw [List.nodup_iff_pairwise_ne,List.pairwise_map]
  exact (List.nodup_iff_pairwise_ne.mp nd).imp_of_mem fun {a b} ha hb hne e=>hne ((Int.toNat_of_nonneg (g a ha).1).symm.trans ((aw Int.ofNat e).trans (Int.toNat_of_nonneg (g b hb).1)))
 have h2:(hs.map Int.toNat)⊆List.range 12:=fun y hy=>by
  obtain ⟨x,hx,rfl⟩:=bo.mp hy
  exact List.mem_range.mpr ((Int.toNat_lt (g x hx).1).mpr (g x hx).2)
 have hp:(hs.map Int.toNat).Perm ((List.range 12).filter fun i=>decide (i∈hs.map Int.toNat)):=(List.perm_ext_iff_of_nodup h (List.nodup_range.sublist fM)).mpr fun i=>by
  rw [b7]
  exact ⟨fun m=>⟨h2 m,br m⟩,fun m=>bH m.2⟩
 have:=hp.length_eq
 rw [ba] at this
 rw [this]
 exact gL _ _
theorem Gr.len (x:Gr rs a b):b.length≤12:=jS x.nd x.gl
theorem Gr.add (x:Gr rs a b) {k:Int} (g:Nc.gl k) (h:∀ P:Int→Prop,(∀ x∈b,P x)→(∀ r∈rs,r.cl P)→P k):Gr rs a (hV b k):=by
 unfold hV
 by_cases c:k∈b
 ·rw [au c];exact x
 ·rw [av c]
  refine ⟨x.pre.trans (List.prefix_append _ _),?_,fun y hy=>?_,fun P h1 h2 y hy=>?_⟩
  ·rw [cD]
   exact ⟨x.nd,by simp,fun p hp q hq e=>c (by rw [aV] at hq;rw [← hq,← e];exact hp)⟩
  ·rcases cH.mp hy with hy | hy
   ·exact x.gl y hy
   ·rw [aV.mp hy];exact g
  ·have hb:=x.least P h1 h2
   rcases cH.mp hy with hy | hy
   ·exact hb y hy
   ·rw [aV.mp hy];exact h P hb h2
end
section
noncomputable abbrev bj.kind:bj→Nat | .sg _=>16 | .lg _=>57
noncomputable abbrev bj.tab:bj→T | .sg m=>fw (DI m) | .lg l=>pi (DL (aQ l))
theorem bj.look_eq (r:bj):r.look=be r.kind (.list [r.tab]):=by induction r<;>rfl
noncomputable def kH (r:bj) (g:Int) (hs:List Int):List Int:=match r with
 | .sg m=>(b8 m g).toList
 | .lg l=>(((b8 (aQ l) g).getD []).filter fun p=>decide (p.1∈hs)).map (·.2)
theorem HA {r:bj} (hr:r.ok) {g:Int} {x:Int} (h:x∈kH r g hs):gl x:=by
 induction r with
 | sg m=>
  obtain ⟨_,_,h3⟩:=hr
  have h:x∈(b8 m g).toList:=h
  induction e:b8 m g with
  | none=>rw [e] at h;exact nomatch h
  | some v=>rw [e] at h;cases aV.mp h;exact (h3 _ (cW e)).2
 | lg l=>
  obtain ⟨p,hp,rfl⟩:=bo.mp (show x∈(((b8 (aQ l) g).getD []).filter fun p=>decide (p.1∈hs)).map (·.2) from h)
  have:=(b7.mp hp).1
  rw [fL] at this
  obtain ⟨q,hq,rfl⟩:=bo.mp this
  exact (hr.2 q (b7.mp hq).1).2.2
theorem Hh {r:bj} {g:Int} {x:Int} (h:x∈kH r g hs) (hg:g∈hs) (P:Int→Prop) (hp:∀ y∈hs,P y) (hc:r.cl P):P x:=by
 induction r with
 | sg m=>
  have h:x∈(b8 m g).toList:=h
  induction e:b8 m g with
  | none=>rw [e] at h;exact nomatch h
  | some v=>rw [e] at h;cases aV.mp h;exact hc _ (cW e) (hp g hg)
 | lg l=>
  obtain ⟨p,hm,rfl⟩:=bo.mp (show x∈(((b8 (aQ l) g).getD []).filter fun p=>decide (p.1∈hs)).map (·.2) from h)
  obtain ⟨h1,h2⟩:=b7.mp hm
  rw [fL] at h1
  obtain ⟨q,hq,rfl⟩:=bo.mp h1
  obtain ⟨h3,h4⟩:=b7.mp hq
  have h4:q.1=g:=bH h4
  exact hc q h3 (by rw [h4];exact hp g hg) (hp _ (bH h2))
theorem Im {r:bj} (hr:r.ok) (h:∀ g∈hs,∀ x∈kH r g hs,x∈hs):r.cl (·∈hs):=by
 induction r with
 | sg m=>
  intro p hp h1
  refine h p.1 h1 p.2 ?_
  show p.2∈(b8 m p.1).toList
  rw [du hr.1 (show (p.1,p.2)∈m from hp)];exact aV.mpr rfl
 | lg l=>
  intro p hp h1 h2
  refine h p.1 h1 p.2.2 ?_
  show p.2.2∈(((b8 (aQ l) p.1).getD []).filter fun p=>decide (p.1∈hs)).map (·.2)
  rw [fL]
  exact bo.mpr ⟨p.2,b7.mpr ⟨bo.mpr ⟨p,b7.mpr ⟨hp,br rfl⟩,rfl⟩,br h2⟩,rfl⟩
section
variable {n:Nat} {Q:T→Option T→Prop}
theorem tH (m:List (Int×List (Int×Int))) (g:Int):((b8 m g).map gJ).getD (.list [])=gJ ((b8 m g).getD []):=by cases b8 m g<;>rfl
theorem x4 (m:List (Int×List (Int×Int))) (g:Int) (hs:List Int) (h:Q (.list ((((b8 m g).getD []).filter fun p=>decide (p.1∈hs)).map fun p=>T.int p.2)) (some (HS hs))):CN (n+1) 32 [pi (DL m),.int g] (some (HS hs)) Q:=by
 refine ao (fd:=gz) rfl rfl rfl (And.intro rfl (ab (lr kI gJ m g (.list [])) ?_))
 rw [tH]
 refine bg (gV true) (fun x=>decide (x.1∈hs)) (fun x=>.int x.2) (fun s:Slot×Slot=>[(43,s.1),(57,s.2),(26,.val (pi (DL m))),(7,.val (.int g)),(25,.own true (HS hs))]) (fun x=>(.val (.tup [.int x.1]),.val (.int x.2))) (fun _=>trivial) _ (fun x hx s K k=>?_) (fun x hx hp K k=>?_) (.unb,.unb) fun s=>h
 ·refine dU (ab (Ol hs x.1) ?_)
  refine ag (cJ ?_)
  induction q:decide (x.1∈hs) with
  | false=>rw [q] at k;exact k
  | true=>rw [q] at k;exact k
 ·exact k _
theorem CG (r:bj) (g:Int) (hs:List Int) (h:Q (.list ((kH r g hs).map .int)) (some (HS hs))):CN (n+2) 33 [.str r.kind,r.tab,.int g] (some (HS hs)) Q:=by
 induction r with
 | sg m=>
  refine ao (fd:=nh) rfl rfl rfl (ab (qp kI T.int m g) ?_)
  have h:Q (.list ((b8 m g).toList.map .int)) (some (HS hs)):=h
  induction e:b8 m g with
  | none=>rw [e] at h;exact h
  | some v=>
   rw [e] at h
   exact ab (bE kI T.int e) h
 | lg l=>
  refine ao (fd:=nh) rfl rfl rfl (ag ?_)
  refine x4 (aQ l) g hs (ab rfl ?_)
  have e:kH (.lg l) g hs=(((b8 (aQ l) g).getD []).filter fun p=>decide (p.1∈hs)).map (·.2):=rfl
  rw [e,cu] at h
  exact h
theorem yD {c:List Int} (h1:a <+: b) (h2:b <+: c) (e:c=a):b=a:=by
 subst e
 exact h2.eq_of_length (Nat.le_antisymm h2.length_le h1.length_le)
theorem sM (r:bj) (hr:r.ok) (gs hs:List Int) (nd:hs.Nodup) (hg:∀ x∈hs,gl x) (sub:∀ g∈gs,g∈hs)
  (h:∀ hs',Gr [r] hs hs'→(hs'=hs→∀ g∈gs,∀ x∈kH r g hs,x∈hs)→Q (.list []) (some (HS hs'))):CN (n+3) 34 [r.look,.tup (gs.map .int)] (some (HS hs)) Q:=by
 rw [bj.look_eq]
 refine ao (fd:=kT) rfl rfl rfl (ag (And.intro rfl (ab rfl ?_)))
 refine cx T.int (fun s:List Int×Slot×Slot×Slot=>[(47,.val (be r.kind (.list [r.tab]))),(14,.val (.tup (gs.map .int))),(25,.own true (HS s.1)),(60,.own false (.list [])),(7,s.2.1),(26,s.2.2.1),(63,s.2.2.2)])
  (fun l s=>∃ done,gs=done++l∧Gr [r] hs s.1∧(s.1=hs→∀ g∈done,∀ x∈kH r g hs,x∈hs)) ?_ ?_ gs (hs,.unb,.unb,.unb) ⟨[],rfl,.refl nd hg,fun _ _ h=>nomatch h⟩
 ·rintro g l ⟨hc,s1,s2,s3⟩ ⟨done,e,gr,cl⟩ K k
  dsimp only at gr cl
  have hgc:g∈hc:=gr.pre.subset (sub g (by rw [e];simp))
  refine And.intro rfl (ab rfl (r9 ?_))
  have kind:([T.str 61,T.str 62].any (Pq r.kind))=false:=by induction r<;>rfl
  refine fQ kind ?_
  refine ag (CG r g hc (ab rfl (And.intro rfl (ab rfl ?_))))
  refine cx T.int (fun s:List Int×Slot=>[(47,.val (be r.kind (.list [r.tab]))),(14,.val (.tup (gs.map .int))),(25,.own true (HS s.1)),(60,.own false (.list [])),(7,.val (.int g)),(26,.val r.tab),(63,s.2)])
   (fun l2 s=>∃ done2,kH r g hc=done2++l2∧Gr [r] hs s.1∧hc <+: s.1∧(s.1=hc→∀ x∈done2,x∈hc)) ?_ ?_ (kH r g hc) (hc,s3) ⟨[],rfl,gr,List.prefix_refl _,fun _ _ h=>nomatch h⟩
  ·rintro x l2 ⟨hd,t⟩ ⟨done2,e2,gr2,pre2,cl2⟩ K2 k2
   dsimp only at gr2 pre2 cl2
   have hx:x∈kH r g hc:=by rw [e2];simp
   refine ag (ab (rV gr2.nd (by have:=gr2.len;lia) x) ?_)
   refine k2 (hV hd x,.val (.int x)) ⟨done2++[x],by rw [e2];simp,gr2.add (HA hr hx) (fun P hp hc'=>Hh hx hgc P (fun y hy=>hp y (pre2.subset hy)) (hc' r (.head _))),?_,?_⟩
   ·show hc <+: hV hd x
    unfold hV
    by_cases c:x∈hd
    ·rw [au c];exact pre2
    ·rw [av c];exact pre2.trans (List.prefix_append _ _)
   ·intro e3 y hy
    have e3:hV hd x=hc:=e3
    have xin:x∈hc:=by
     rw [← e3];unfold hV
     by_cases c:x∈hd
     ·rw [au c];exact c
     ·rw [av c];simp
    rcases cH.mp hy with hy | hy
    ·refine cl2 (yD pre2 ?_ e3) y hy
     unfold hV
     by_cases c:x∈hd
     ·rw [au c];exact List.prefix_refl _
     ·rw [av c];exact List.prefix_append _ _
    ·rw [aV.mp hy];exact xin
  ·rintro ⟨hd,t⟩ ⟨done2,e2,gr2,pre2,cl2⟩
   dsimp only at gr2 pre2 cl2
   rw [cr] at e2
   subst e2
   refine uw (k (hd,.val (.int g),.val r.tab,t) ⟨done++[g],by rw [e];simp,gr2,fun e3=>?_⟩)
   have e3:hd=hs:=e3
   have e4:hc=hs:=yD gr.pre pre2 e3
   intro g' hg' x hx
   rcases cH.mp hg' with hg' | hg'
   ·exact cl e4 g' hg' x hx
   ·rw [aV.mp hg'] at hx
    subst e4
    exact cl2 e3 x hx
 ·rintro ⟨hc,s1,s2,s3⟩ ⟨done,e,gr,cl⟩
  rw [cr] at e
  subst e
  exact h hc gr cl
end
end
section
noncomputable abbrev PD:KE Int:=⟨fun k=>.T [k],fun k=>.tup [.int k],fun a b h=>by
 have:=bK.T.inj h
 simpa using this,2,fun _=>rfl,fun _=>rfl,fun _=>rfl⟩
noncomputable abbrev bT (_:Unit):T:=.bool true
noncomputable abbrev bl (scr tag:T) (named:List Int) (ls:List T):T:=C6 scr (.list [oA tag (.list (named.map .int))]) (.list ls)
structure fy (named:List Int) (k:Nat):Prop where
 inc:named.Pairwise (· < ·)
 in_:∀ x∈named,0≤x∧x < k
theorem fy.nd {named:List Int} {k:Nat} (h:fy named k):named.Nodup:=List.nodup_iff_pairwise_ne.mpr (h.inc.imp fun h=>by lia)
theorem fy.canon {named:List Int} {k:Nat} (h:fy named k):canon named=named:=bV (aJ named) h.inc fun _=>aN
theorem rN {i:Int} {t:T} (h0:0≤i) (h:xs[i.toNat]? = some t):getItem (.list xs) (.int i)=some t:=by
 show (idxOf i xs.length).bind (fun j=>xs[j]?)=_
 unfold idxOf
 rw [au h0,au (hM.mp h).1,fR,h]
section
variable {n:Nat} {Q:T→Option T→Prop}
theorem GN (scr tag:T) (named:List Int) (ls:List T) (ok:fy named ls.length) (hl:named.length < 60) (h:Q (.list (named.map .int)) none):CN (n+1) 31 [bl scr tag named ls] none Q:=by
 refine ao (fd:=i3) rfl rfl rfl (ag (And.intro rfl (ab rfl (r9 ?_))))
 refine And.intro rfl (ab rfl ?_)
 refine cx T.int (fun s:List Int×Slot=>[(55,.val (bl scr tag named ls)),(54,.own false (HS s.1)),(46,.val (oA tag (.list (named.map .int)))),(56,s.2)])
  (fun l s=>s.1++l=named) ?_ ?_ named ([],.unb) rfl
 ·rintro x l ⟨hs,s⟩ e K k
  have e:hs++x::l=named:=e
  obtain ⟨h0,h1⟩:=ok.in_ x (by rw [← e];simp)
  have nd:=ok.nd
  rw [← e,cD] at nd
  refine ff (br h0) (ff (br h1) ?_)
  refine ag (ab (rV nd.1 (by have:=aw List.length e;rw [bS] at this;lia) x) ?_)
  have hx:hV hs x=hs++[x]:=av fun c=>nd.2.2 x c x (.head _) rfl
  rw [hx]
  exact k (hs++[x],.val (.int x)) (by show (hs++[x])++l=named;rw [← e];simp)
 ·rintro ⟨hs,s⟩ e
  have e:hs++[]=named:=e
  rw [cr] at e
  subst e
  refine uw (ab (gm ok.nd hl) ?_)
  rw [ok.canon];exact h
theorem IN (h:xs.length < 1000):AQ (.list xs) (.list [])=some (.list xs):=by
 have e:AQ (.list xs) (.list [])=some (.list (xs++[])):=au (by rw [List.length_nil];have:SZ=1048576:=rfl;lia)
 rw [e,cr]
noncomputable abbrev OJ (named:List Int):T:=.list (named.map fun k=>.tup [.int k,.tup []])
noncomputable abbrev Pe (scr tag:T) (named:List Int) (ls:List T) (hs:List Int) (s56:Slot) (done:List Int) (at_:Int) (s67 s13:Slot):Env:=
 [(55,.val (bl scr tag named ls)),(25,.own true (HS hs)),(56,s56),(64,.own false (OJ named)),(65,.own false (D PD bT (done.map fun k=>(k,())))),(66,.val (.int at_)),(67,s67),(13,s13)]
theorem vL (scr tag:T) (named:List Int) (rows:List bj) (hr:∀ r∈rows,r.ok) (ok:fy named rows.length) (hl:named.length < 60) (hs:List Int) (nd:hs.Nodup) (hg:∀ x∈hs,gl x) (R:List bj) (hR:R=named.map fun k=>rows.getD k.toNat (.sg []))
  (h:∀ hs',Gr R hs hs'→(hs'=hs→∀ r∈R,r.cl (·∈hs))→Q .none (some (HS hs'))):CN (n+4) 35 [bl scr tag named (rows.map bj.look)] (some (HS hs)) Q:=by
 refine ao (fd:=l8) rfl rfl rfl (ag (GN scr tag named _ (by rw [ba];exact ok) hl ?_))
 refine bc T.int (fun k=>.tup [.int k,.tup []]) (fun s:Slot=>[(56,s),(55,.val (bl scr tag named (rows.map bj.look))),(25,.own true (HS hs)),(56,.unb),(64,.unb),(65,.unb),(66,.unb),(67,.unb),(13,.unb)]) (fun _=>trivial) named (fun x hx s K k=>?_) .unb fun s=>?_
 ·exact k _
 refine ag (ag (ag ?_))
 have hsub:∀ k∈named,rows.getD k.toNat (.sg [])∈rows∧(rows.map bj.look)[k.toNat]? = some (rows.getD k.toNat (.sg [])).look:=fun k hk=>by
  have:=ok.in_ k hk
  have hlt:k.toNat < rows.length:=by lia
  rw [g9,dO,cj hlt]
  exact ⟨List.getElem_mem hlt,rfl⟩
 refine lH (fun s:(List Int×List Int×Int)×Slot×Slot×Slot=>Pe scr tag named (rows.map bj.look) s.1.1 s.2.1 s.1.2.1 s.1.2.2 s.2.2.1 s.2.2.2)
  (fun s=>dQ s.2.2.2∧∃ l,named=s.1.2.1++l∧s.1.2.2=s.1.2.1.length∧Gr R hs s.1.1∧(s.1.1=hs→∀ k∈s.1.2.1,(rows.getD k.toNat (.sg [])).cl (·∈hs))) (fun s=>named.length - s.1.2.1.length) ?_ ((hs,[],0),.unb,.unb,.unb) ⟨trivial,named,rfl,rfl,.refl nd hg,fun _ _ h=>nomatch h⟩
 rintro ⟨⟨hc,done,at_⟩,s56,s67,s13⟩ ⟨nf,l,e,ea,gr,cl⟩ K k1 k2
 dsimp only at e ea gr cl
 subst ea
 refine fX (fun hlt=>?_) fun hge=>?_
 ·induction l with
  | nil=>rw [cr] at e;subst e;simp at hlt
  | cons x l=>
   have hx:x∈named:=by rw [e];simp
   have hat:(named.map fun k=>T.tup [.int k,.tup []])[(done.length:Int).toNat]? = some (.tup [.int x,.tup []]):=by
    rw [e];simp
   obtain ⟨x0,x1⟩:=ok.in_ x hx
   obtain ⟨rin,rat⟩:=hsub x hx
   have ndn:=ok.nd
   rw [e,cD] at ndn
   have hxd:x∉done:=fun c=>ndn.2.2 x c x (.head _) rfl
   have hkeys:keys (done.map fun k=>(k,()))=done:=g8 done
   have hdl:done.length < 60:=by have:=aw List.length e;rw [bS] at this;lia
   refine ag (ab (rN (Int.natCast_nonneg _) hat) ?_)
   refine ag (And.intro nf ?_)
   refine ab (jN PD bT (done.map fun k=>(k,())) x) ?_
   refine fQ (by rw [CT];exact decide_eq_false hxd) ?_
   refine ff (br x0) (fQ ?_ ?_)
   ·show (!decide (x < ((rows.map bj.look).length:Int)))=false
    rw [ba,br x1];rfl
   refine ag (ab (gc PD bT (m:=done.map fun k=>(k,())) (by rw [hkeys];exact ndn.1) (by rw [ba];have:SZ=1048576:=rfl;lia) x ()) ?_)
   rw [zW,show hV done x=done++[x] from av hxd]
   refine ag (ag ?_)
   refine ab (rN x0 rat) ?_
   refine ab (gm (hs:=hc) gr.nd (by have:=gr.len;lia)) ?_
   refine sM _ (hr _ rin) (canon hc) hc gr.nd gr.gl (fun g hg=>aN.mp hg) fun hs' g2 cl2=>?_
   refine ab rfl (ab (IN (by rw [ba];lia)) ?_)
   have rR:rows.getD x.toNat (.sg [])∈R:=by rw [hR];exact bo.mpr ⟨x,hx,rfl⟩
   refine k1 ((hs',done++[x],(done.length:Int)+1),.val (.int x),.val (.tup []),.val (.tup [.int x])) ⟨trivial,l,by rw [e];simp,by simp,gr.trans (g2.more fun r hm=>by rw [aV.mp hm];exact rR),fun e3 k hk=>?_⟩ ?_
   ·have e3:hs'=hs:=e3
    have e4:hc=hs:=yD gr.pre g2.pre e3
    rcases cH.mp hk with hk | hk
    ·exact cl e4 k hk
    ·rw [aV.mp hk]
     subst e4
     exact Im (hr _ rin) fun g hg=>cl2 e3 g (aN.mpr hg)
   ·show named.length - (done++[x]).length < named.length - done.length
    rw [e];simp;lia
 ·have hd:l=[]:=by
   induction l with
   | nil=>rfl
   | cons x l=>rw [e] at hge;simp at hge;lia
  subst hd
  rw [cr] at e
  refine h hc gr fun e2 r hm=>?_
  rw [hR] at hm
  obtain ⟨k,hk,rfl⟩:=bo.mp hm
  rw [e] at hk
  exact cl e2 k hk
end
end
section
section
variable {n:Nat} {Q:T→Option T→Prop}
structure fT (base:List Int) (R:List bj) (S:List Int):Prop where
 lfp:OQ base R S
 inc:S.Pairwise (· < ·)
 gl:∀ x∈S,gl x
theorem fT.nd {R:List bj} (h:fT base R S):S.Nodup:=List.nodup_iff_pairwise_ne.mpr (h.inc.imp fun h=>by lia)
theorem fT.eq {base':List Int} {R:List bj} {S':List Int} (h:fT base R S) (h':fT base' R S') (e:∀ x,x∈base↔x∈base'):S=S':=by
 refine bV h.inc h'.inc fun x=>?_
 exact h.lfp.ext ⟨fun x hx=>h'.lfp.sub x ((e x).mp hx),fun P hp=>h'.lfp.least P fun x hx=>hp x ((e x).mpr hx),h'.lfp.clos⟩ x
theorem fT.len {R:List bj} (h:fT base R S):S.length≤12:=jS h.nd h.gl
theorem Dh {r:bj} {P P':Int→Prop} (h:∀ x,P x↔P' x) (c:r.cl P):r.cl P':=by
 induction r with
 | sg m=>exact fun p hp h1=>(h _).mp (c p hp ((h _).mpr h1))
 | lg l=>exact fun p hp h1 h2=>(h _).mp (c p hp ((h _).mpr h1) ((h _).mpr h2))
theorem Kw (n:Nat):(-1:Int)≤n:=Int.le_trans (by decide) (Int.natCast_nonneg n)
theorem Ki (n:Nat):(-1:Int)≠n:=fun e=>nomatch e
theorem PC {x:Nat} {k:Int} (h1:-1≤k) (hlt:k < x) (h:x≤12):(13 - (x:Int)).toNat < (13 - k).toNat:=by lia
theorem vB (scr tag:T) (named:List Int) (rows:List bj) (hr:∀ r∈rows,r.ok) (ok:fy named rows.length) (hl:named.length < 60) (gs:List Int) (nd:gs.Nodup) (hg:∀ x∈gs,gl x) (R:List bj) (hR:R=named.map fun k=>rows.getD k.toNat (.sg []))
  (h:∀ S,fT gs R S→Q (.list (S.map .int)) none):CN (n+5) 36 [bl scr tag named (rows.map bj.look),.list (gs.map .int)] none Q:=by
 refine ao (fd:=mB) rfl rfl rfl ?_
 refine bc T.int (fun k=>.tup [.int k,.bool true]) (fun s:Slot=>[(7,s),(55,.val (bl scr tag named (rows.map bj.look))),(14,.val (.list (gs.map .int))),(25,.unb),(68,.unb)]) (fun _=>trivial) gs (fun x hx s K k=>?_) .unb fun s=>?_
 ·exact k _
 refine ab (Aa nd (by have:=jS nd hg;lia)) (ag (ag ?_))
 refine lH (fun s:List Int×Int=>[(55,.val (bl scr tag named (rows.map bj.look))),(14,.val (.list (gs.map .int))),(25,.own false (HS s.1)),(68,.val (.int s.2))])
  (fun s=>Gr R gs s.1∧-1≤s.2∧s.2≤s.1.length∧(s.2=s.1.length→∀ r∈R,r.cl (·∈s.1))) (fun s=>(13 - s.2).toNat) (fun s g K k1 k2=>?_) (gs,-1) ⟨.refl nd hg,Int.le_refl _,Kw gs.length,fun e=>absurd e (Ki gs.length)⟩
 have hem:((em kI (fun _:Unit=>T.bool true) (s.1.map fun k=>(k,()))).length:Int)=s.1.length:=by unfold em;rw [ba,ba]
 refine fX (fun hlt=>?_) fun hge=>?_
 ·refine ag (ag (vL scr tag named rows hr ok hl s.1 g.1.nd g.1.gl R hR fun hs' g2 cl2=>ab rfl ?_))
  have hlt:s.2 < s.1.length:=hem▸bH hlt
  refine k1 (hs',((em kI (fun _:Unit=>T.bool true) (s.1.map fun k=>(k,()))).length:Int)) (hem▸⟨g.1.trans g2,Int.le_trans (by decide) (Int.natCast_nonneg _),Int.ofNat_le.mpr g2.pre.length_le,fun e=>?_⟩) (by rw [hem];exact PC g.2.1 hlt g.1.len)
  have e2:hs'=s.1:=(g2.pre.eq_of_length (Int.ofNat.inj e)).symm
  rw [e2] at cl2 ⊢
  exact cl2 rfl
 ·have cl:=g.2.2.2 (Int.le_antisymm g.2.2.1 (Int.not_lt.mp (hem▸of_decide_eq_false hge)))
  refine ab (gm (hs:=s.1) g.1.nd (eD g.1.len (by decide))) ?_
  exact h _ ⟨⟨fun x hx=>aN.mpr (g.1.pre.subset hx),fun P hp hc x hx=>g.1.least P hp hc x (aN.mp hx),fun r hr=>Dh (fun x=>aN.symm) (cl r hr)⟩,aJ _,fun x hx=>g.1.gl x (aN.mp hx)⟩
theorem B1 {c m g p k:T} {s:T} (gs:List Int) (nd:gs.Nodup) (hg:∀ x∈gs,gl x) (R:List bj)
  (hs:(s=.none∧R=[])∨∃ (scr tag:T) (named:List Int) (rows:List bj),s=bl scr tag named (rows.map bj.look)∧(∀ r∈rows,r.ok)∧fy named rows.length∧named.length < 60∧R=named.map fun k=>rows.getD k.toNat (.sg []))
  (h:∀ S,fT gs R S→Q (.list (S.map .int)) none):CN (n+6) 37 [qM c m g s p k,.list (gs.map .int)] none Q:=by
 rcases hs with ⟨rfl,rfl⟩ | ⟨scr,tag,named,rows,rfl,hr,ok,hl,hR⟩
 ·refine ao (fd:=nE) rfl rfl rfl ?_
  refine bc T.int (fun k=>.tup [.int k,.bool true]) (fun s:Slot=>[(7,s),(69,.val (qM c m g .none p k)),(14,.val (.list (gs.map .int)))]) (fun _=>trivial) gs (fun x hx s K k=>?_) .unb fun s=>?_
  ·exact k _
  refine ab (Aa nd (by have:=jS nd hg;lia)) ?_
  refine ab (gm nd (by have:=jS nd hg;lia)) ?_
  exact h _ ⟨⟨fun x hx=>aN.mpr hx,fun P hp _ x hx=>hp x (aN.mp hx),fun r hr=>nomatch hr⟩,aJ _,fun x hx=>hg x (aN.mp hx)⟩
 ·refine ao (fd:=nE) rfl rfl rfl (ag ?_)
  exact vB scr tag named rows hr ok hl gs nd hg R hR h
structure GS (rs:List bj) (a b:List Int):Prop where
 sub:∀ x∈a,x∈b
 inc:b.Pairwise (· < ·)
 gl:∀ x∈b,gl x
 least:∀ P:Int→Prop,(∀ x∈a,P x)→(∀ r∈rs,r.cl P)→∀ x∈b,P x
theorem GS.len (h:GS rs a b):b.length≤12:=jS (List.nodup_iff_pairwise_ne.mpr (h.inc.imp fun h=>by lia)) h.gl
theorem ec (h:a.Pairwise (· < ·)):a.Nodup:=List.nodup_iff_pairwise_ne.mpr (h.imp fun h=>by lia)
theorem GS.refl (h:a.Pairwise (· < ·)) (g:∀ x∈a,Nc.gl x):GS rs a a:=⟨fun _ h=>h,h,g,fun _ h _=>h⟩
theorem GS.trans {c:List Int} (x:GS rs a b) (y:GS rs b c):GS rs a c:=⟨fun z h=>y.sub z (x.sub z h),y.inc,y.gl,fun P h hr=>y.least P (x.least P h hr) hr⟩
theorem zC (ha:a.Nodup) (hb:b.Nodup) (sub:∀ x∈a,x∈b):a.length≤b.length:=by
 have hp:a.Perm (b.filter fun x=>decide (x∈a)):=(List.perm_ext_iff_of_nodup ha (hb.sublist fM)).mpr fun y=>by
  rw [b7];exact ⟨fun m=>⟨sub y m,br m⟩,fun m=>bH m.2⟩
 rw [hp.length_eq];exact gL _ _
theorem FT (ha:a.Pairwise (· < ·)) (hb:b.Pairwise (· < ·)) (sub:∀ x∈a,x∈b) (l:b.length≤a.length):b=a:=by
 refine bV hb ha fun x=>⟨fun hx=>?_,sub x⟩
 have hp:a.Perm (b.filter fun x=>decide (x∈a)):=(List.perm_ext_iff_of_nodup (ec ha) ((ec hb).sublist fM)).mpr fun y=>by
  rw [b7];exact ⟨fun m=>⟨sub y m,br m⟩,fun m=>bH m.2⟩
 have e:(b.filter fun x=>decide (x∈a))=b:=fM.eq_of_length (Nat.le_antisymm (gL _ _) (by rw [← hp.length_eq];exact l))
 rw [← e] at hx
 exact bH (b7.mp hx).2
noncomputable def fJ (r:bj) (S:List Int):List Int:=match r with
 | .sg m=>((keys m).filter fun k=>S.contains k).map fun k=>(b8 m k).getD 0
 | .lg l=>(l.filter fun p=>S.contains p.1&&S.contains p.2.1).map (·.2.2)
theorem rL {r:bj} (hr:r.ok) {x:Int} (h:x∈fJ r S):gl x∧∀ P:Int→Prop,(∀ y∈S,P y)→r.cl P→P x:=by
 induction r with
 | sg m=>
  obtain ⟨k,hk,rfl⟩:=bo.mp (show x∈((keys m).filter fun k=>S.contains k).map fun k=>(b8 m k).getD 0 from h)
  obtain ⟨h1,h2⟩:=b7.mp hk
  obtain ⟨v,hv⟩:=cA h1
  rw [hv]
  exact ⟨(hr.2.2 _ (cW hv)).2,fun P hp hc=>hc _ (cW hv) (hp k (fH.mp h2))⟩
 | lg l=>
  obtain ⟨p,hp,rfl⟩:=bo.mp (show x∈(l.filter fun p=>S.contains p.1&&S.contains p.2.1).map (·.2.2) from h)
  obtain ⟨h1,h2⟩:=b7.mp hp
  rw [bC] at h2
  exact ⟨(hr.2 p h1).2.2,fun P hp hc=>hc p h1 (hp _ (fH.mp h2.1)) (hp _ (fH.mp h2.2))⟩
theorem Fa {r:bj} (hr:r.ok) (h:∀ x∈fJ r S,x∈S):r.cl (·∈S):=by
 induction r with
 | sg m=>
  intro p hp h1
  have hv:=du hr.1 (show (p.1,p.2)∈m from hp)
  refine h p.2 (bo.mpr ⟨p.1,b7.mpr ⟨fp.mp (by rw [hv];rfl),fH.mpr h1⟩,by rw [hv];rfl⟩)
 | lg l=>exact fun p hp h1 h2=>h _ (bo.mpr ⟨p,b7.mpr ⟨hp,by rw [bC];exact ⟨fH.mpr h1,fH.mpr h2⟩⟩,rfl⟩)
theorem Bk {r:bj} (hr:r.ok) (S:List Int):(fJ r S).length≤3:=by
 induction r with
 | sg m=>
  show (((keys m).filter fun k=>S.contains k).map fun k=>(b8 m k).getD 0).length≤3
  rw [ba]
  refine aH (gL _ _) ?_
  rw [bG];exact hr.2.1
 | lg l=>
  show ((l.filter fun p=>S.contains p.1&&S.contains p.2.1).map (·.2.2)).length≤3
  rw [ba]
  exact aH (gL _ _) hr.1
theorem q0 {l:List Int} (h:l.length≤1000):bi .set (.list (l.map T.int))=some (.set (canon l)):=by
 show (if (l.map T.int).length≤1000 then (cZ (l.map T.int)).map fun l=>T.set (canon l) else none)=_
 rw [au (by rw [ba];exact h),g6];rfl
theorem Gq (h:a.length+b.length≤15) (ha:∀ x∈a,gl x) (hb:∀ x∈b,gl x):tw .BitOr (.set a) (.set b)=some (.set (canon (a++b))):=by
 refine au ?_
 unfold HW
 rw [br h,Bool.true_and,bC,aY,aY]
 refine ⟨fun x hx=>br ?_,fun x hx=>br ?_⟩
 ·have:=ha x hx;unfold gl at this;lia
 ·have:=hb x hx;unfold gl at this;lia
theorem GS.step (x:GS rs a b) {r:bj} (hr:r.ok) (hm:r∈rs):GS rs a (canon (b++canon (fJ r b))):=by
 have mem:∀ y,y∈canon (b++canon (fJ r b))↔y∈b∨y∈fJ r b:=fun y=>by rw [aN,cH,aN]
 exact ⟨fun y h=>(mem y).mpr (.inl (x.sub y h)),aJ _,fun y h=>((mem y).mp h).elim (x.gl y) fun h=>(rL hr h).1,
  fun P hp hc y h=>((mem y).mp h).elim (x.least P hp hc y) fun h=>(rL hr h).2 P (x.least P hp hc) (hc r hm)⟩
end
end
section
section
variable {n:Nat} {Q:T→Option T→Prop}
noncomputable abbrev Ep (S:List Int) (R:List bj) (known:Int) (s21 s108:Slot):Env:=[(25,.val (.set S)),(4,.val (.list (R.map bj.t))),(68,.val (.int known)),(21,s21),(108,s108)]
theorem CW (base:List Int) (hb:base.Pairwise (· < ·)) (hg:∀ x∈base,gl x) (R:List bj) (hr:∀ r∈R,r.ok) (h:∀ S,fT base R S→Q (.list (S.map .int)) none):CN (n+1) 75 [.set base,.list (R.map bj.t)] none Q:=by
 refine ao (fd:=mK) rfl rfl rfl (ag ?_)
 refine lH (fun s:List Int×Int×Slot×Slot=>Ep s.1 R s.2.1 s.2.2.1 s.2.2.2)
  (fun s=>GS R base s.1∧-1≤s.2.1∧s.2.1≤s.1.length∧(s.2.1=s.1.length→∀ r∈R,r.cl (·∈s.1))) (fun s=>(13 - s.2.1).toNat) ?_ (base,-1,.unb,.unb) ⟨.refl hb hg,Int.le_refl _,by show (-1:Int)≤_;lia,fun e=>by have e:(-1:Int)=base.length:=e;lia⟩
 rintro ⟨S,known,s21,s108⟩ ⟨gr,h1,h2,cl⟩ K k1 k2
 dsimp only at gr h1 h2 cl
 refine fX (fun hlt=>?_) fun hge=>?_
 ·have hlt:known < (S.length:Int):=bH hlt
  refine ag (And.intro rfl (ab rfl ?_))
  refine cx bj.t (fun s:List Int×Slot×Slot=>Ep s.1 R S.length s.2.1 s.2.2) (fun l s=>∃ done,R=done++l∧GS R S s.1∧(s.1=S→∀ r∈done,r.cl (·∈S))) ?_ ?_ R (S,s21,s108) ⟨[],rfl,.refl gr.inc gr.gl,fun _ _ h=>nomatch h⟩
  ·rintro r l ⟨S',t21,t108⟩ ⟨done,e,g2,c2⟩ K2 k2
   dsimp only at g2 c2
   have hm:r∈R:=by rw [e];simp
   have go:∀ t21 t108,K2 .next (Ep (canon (S'++canon (fJ r S'))) R S.length t21 t108):=fun t21 t108=>by
    refine k2 (_,t21,t108) ⟨done++[r],by rw [e];simp,g2.trans ((GS.refl g2.inc g2.gl).step (hr r hm) hm),fun e3 r' hr'=>?_⟩
    have e3:canon (S'++canon (fJ r S'))=S:=e3
    have e4:S'=S:=FT gr.inc g2.inc g2.sub (by
     have:∀ x∈S',x∈S:=fun x hx=>by rw [← e3,aN];exact eY _ hx
     exact zC (ec g2.inc) (ec gr.inc) this)
    rcases cH.mp hr' with hr' | hr'
    ·exact c2 e4 r' hr'
    ·rw [aV.mp hr']
     subst e4
     exact Fa (hr r hm) fun x hx=>by rw [← e3,aN];exact dq _ (aN.mpr hx)
   have hl3:=Bk (hr r hm) S'
   have join:tw .BitOr (.set S') (.set (canon (fJ r S')))=some (.set (canon (S'++canon (fJ r S')))):=
    Gq (by have:=g2.len;have:=bL (fJ r S');lia) g2.gl fun x hx=>(rL (hr r hm) (aN.mp hx)).1
   induction r with
   | sg m=>
    refine gj kI T.int (bg T.int (fun k=>S'.contains k) (fun k=>.int ((b8 m k).getD 0)) (fun s:Slot=>(7,s)::Ep S' R S.length (.val (.str 16)) (.val (DI m))) (fun k=>.val (.int k)) (fun _=>trivial) (keys m) (fun x hx s K k=>?_) (fun x hx hp K k=>?_) .unb fun s=>?_)
    ·induction q:S'.contains x with
     | false=>rw [q] at k;exact fQ q k
     | true=>rw [q] at k;exact ff q k
    ·obtain ⟨v,hv⟩:=cA hx
     rw [hv] at k
     exact ag (ab (bE kI T.int hv) (k _))
    ·refine ab (a:=T.set (canon (fJ (.sg m) S'))) ?_ ?_
     ·have:=q0 (l:=fJ (.sg m) S') (by lia)
      rw [show (fJ (.sg m) S').map T.int=((keys m).filter fun k=>S'.contains k).map fun k=>T.int ((b8 m k).getD 0) from by
       show (((keys m).filter fun k=>S'.contains k).map fun k=>(b8 m k).getD 0).map T.int=_
       rw [cu];rfl] at this
      exact this
     ·exact ab join (ag (go _ _))
   | lg l=>
    refine bg je (fun p=>S'.contains p.1&&S'.contains p.2.1) (fun p=>.int p.2.2) (fun s:Slot×Slot×Slot=>(9,s.1)::(107,s.2.1)::(63,s.2.2)::Ep S' R S.length (.val (.str 57)) (.val (.list (l.map je)))) (fun p=>(.val (.int p.1),.val (.int p.2.1),.val (.int p.2.2))) (fun _=>trivial) l (fun x hx s K k=>?_) (fun x hx hp K k=>?_) (.unb,.unb,.unb) fun s=>?_
    ·induction q:S'.contains x.1 with
     | false=>rw [q] at k;exact fQ q k
     | true=>
      induction q':S'.contains x.2.1 with
      | false=>rw [q,q'] at k;exact ff q (fQ q' k)
      | true=>rw [q,q'] at k;exact ff q (ff q' k)
    ·exact k _
    ·refine ab (a:=T.set (canon (fJ (.lg l) S'))) ?_ ?_
     ·have:=q0 (l:=fJ (.lg l) S') (by lia)
      rw [show (fJ (.lg l) S').map T.int=(l.filter fun p=>S'.contains p.1&&S'.contains p.2.1).map fun p=>T.int p.2.2 from by
       show ((l.filter fun p=>S'.contains p.1&&S'.contains p.2.1).map (·.2.2)).map T.int=_
       rw [cu];rfl] at this
      exact this
     ·exact ab join (ag (go _ _))
  ·rintro ⟨S',t21,t108⟩ ⟨done,e,g2,c2⟩
   dsimp only at g2 c2
   rw [cr] at e
   subst e
   refine k1 (S',S.length,t21,t108) ⟨gr.trans g2,by dsimp only;lia,?_,fun e=>?_⟩ ?_
   ·have:=zC (ec gr.inc) (ec g2.inc) g2.sub
    dsimp only;lia
   ·have e:(S.length:Int)=S'.length:=e
    have e4:S'=S:=FT gr.inc g2.inc g2.sub (by lia)
    subst e4
    exact c2 rfl
   ·show (13 - (S.length:Int)).toNat < (13 - known).toNat
    have:=gr.len;lia
 ·have hge:¬ known < (S.length:Int):=of_decide_eq_false hge
  refine ab (yM (l:=S) (by have:=gr.len;lia)) ?_
  exact h S ⟨⟨gr.sub,gr.least,cl (by lia)⟩,gr.inc,gr.gl⟩
end
end
section
noncomputable def Cb (x:Int):Bool:=decide (x < 97∨(101 < x∧x≠500))
noncomputable def E6 (t:T):Option (Int×Int):=(vY t).bind fun p=>(f6 p.1).bind fun a=>(f6 p.2).map fun b=>(a,b)
theorem z6 {t:T} {p:Int×Int} (h:E6 t=some p):t=.tup [.int p.1,.int p.2]:=dw h fun q h1 h=>dw h fun a h2 h=>eT h fun b h3 e=>by rw [e,q5 h1,cC h2,cC h3]
noncomputable def nY (t:T):Bool:=(E6 t).any fun p=>Cb p.1&&Cb p.2
noncomputable def FB (t:T):Bool:=(E6 t).any fun p=>decide ((p.1+2*p.2 < 97∨500 < p.1)∧0≤p.2∧p.2≤14)
theorem za {t:T} (h:nY t=true):∃ a b,t=.tup [.int a,.int b]∧Cb a=true∧Cb b=true:=by
 obtain ⟨p,e,h⟩:=Ov h
 exact ⟨p.1,p.2,z6 e,cB.mp h⟩
theorem AP {t:T} (h:FB t=true):∃ a b,t=.tup [.int a,.int b]∧(a+2*b < 97∨500 < a)∧0≤b∧b≤14:=by
 obtain ⟨p,e,h⟩:=Ov h
 exact ⟨p.1,p.2,z6 e,bH h⟩
theorem Pd {b:Int} (h:b≤14):b < 1000:=by lia
theorem LV {a b:Int} {i:Nat} (h:a+2*b < 97∨500 < a) (hi:i < b.toNat):Cb (a+2*Int.ofNat i)=true∧Cb (a+2*Int.ofNat i+1)=true:=by
 have:Int.ofNat i=(i:Int):=rfl
 exact ⟨br (by lia),br (by lia)⟩
theorem Mr {x y l:Nat} {b:Int} (e:y=b.toNat) (h:b≤14) (g:x+15*(l+1)≤620):x+y < 1000∧x+y+15*l≤620:=by lia
theorem KB {x y l:Nat} (g:x+2*(l+1)≤1400) (h:y≤x+1):x < 1048576∧y < 1048576:=by lia
theorem GP {x y z l:Nat} (g:x+2*(l+1)≤1400) (h:y≤x+1) (h2:z≤y+1):z+2*l≤1400:=by lia
section
variable {n:Nat} {Q:T→Option T→Prop}
theorem DC {ys:List T} (h:xs.length+ys.length < 1000):AQ (.list xs) (.list ys)=some (.list (xs++ys)):=au (by have:SZ=1048576:=rfl;lia)
theorem LJ (h:∀ xs:List T,xs.all nY=true→xs.length≤20→Q (.list xs) none):CN (n+1) 54 [] none Q:=
 ao (fd:=mo) rfl rfl rfl (h _ rfl (by decide))
theorem KT (h:∀ xs:List T,xs.all FB=true→xs.length≤40→Q (.list xs) none):CN (n+1) 55 [] none Q:=
 ao (fd:=oG) rfl rfl rfl (h _ rfl (by decide))
theorem FH (h:∀ xs:List T,xs.all nY=true→xs.length≤700→Q (.list xs) none):CN (n+2) 56 [] none Q:=by
 refine ao (fd:=jy) rfl rfl rfl (ag (LJ fun KV h1 h2=>?_))
 refine ag (ag (KT fun side h3 h4=>?_))
 refine And.intro rfl (ab rfl ?_)
 refine zY (fun s:List T×Slot×Slot=>[(54,.own false (.list s.1)),(9,s.2.1),(86,s.2.2)]) (fun l s=>l.all FB=true∧s.1.all nY=true∧s.1.length+15*l.length≤620) ?_ ?_ side (KV,.unb,.unb) ⟨h3,h1,Nat.add_le_add h2 (Nat.mul_le_mul_left 15 h4)⟩
 ·intro x l s g K k
  obtain ⟨a,b,rfl,h5,h6,h7⟩:=AP (aY.mp g.1 x (.head _))
  refine ag (ab (fq h6 (Pd h7)) ?_)
  refine eO dZ (fun p:Int×Int=>T.tup [.int p.1,.int p.2]) (fun s':Slot=>[(87,s'),(54,.own false (.list s.1)),(9,.val (.int a)),(86,.val (.int b))]) (fun l bs s=>bs.length+l.length=b.toNat∧(∀ i∈l,i < b.toNat)∧∀ p∈bs,Cb p.1=true∧Cb p.2=true) (fun _=>trivial) (fun i r bs s e K2 k1 k2=>?_) (List.range b.toNat) .unb ⟨by rw [ei];exact Nat.zero_add _,fun i hi=>List.mem_range.mp hi,fun _ h=>nomatch h⟩ fun bs s' e=>?_
  ·exact k1 (a+2*Int.ofNat i,a+2*Int.ofNat i+1) (.val (dZ i)) ⟨Ed e.1,fun j hj=>e.2.1 j (.tail _ hj),mG e.2.2 (LV h5 (e.2.1 i (.head _)))⟩
  ·have le:=Mr e.1 h7 g.2.2
   refine ab (DC (by rw [ba];exact le.1)) ?_
   refine k (s.1++bs.map fun p=>T.tup [.int p.1,.int p.2],.val (.int a),.val (.int b)) ⟨(cB.mp g.1).2,?_,?_⟩
   ·show (s.1++_).all nY=true
    rw [List.all_append,g.2.1,Bool.true_and,List.all_map,aY]
    exact fun p hp=>cB.mpr (e.2.2 p hp)
   ·show (s.1++_).length+_≤620
    rw [bS,ba];exact le.2
 ·exact fun s g=>h s.1 g.2.1 (aH g.2.2 (by decide))
theorem C0 (h:∀ m:List (Int×Int),(∀ k∈keys m,Cb k=true)→Q (DI m) none):CN (n+3) 57 [] none Q:=by
 refine ao (fd:=jC) rfl rfl rfl (ag (ag (FH fun xs h1 h2=>?_)))
 refine And.intro rfl (ab rfl ?_)
 refine zY (fun s:List (Int×Int)×Slot×Slot=>[(26,.own false (DI s.1)),(37,s.2.1),(58,s.2.2)]) (fun l s=>l.all nY=true∧(∀ k∈keys s.1,Cb k=true)∧(keys s.1).Nodup∧s.1.length+2*l.length≤1400) ?_ ?_ xs ([],.unb,.unb) ⟨h1,(fun k (h:k∈([]:List Int))=>nomatch h),cK,(Nat.zero_add _).symm▸Nat.mul_le_mul_left 2 h2⟩
 ·intro x l s g K k
  obtain ⟨a,b,rfl,h5,h6⟩:=za (aY.mp g.1 x (.head _))
  have l1:=(iw s.1 a b).2
  have lt:=KB g.2.2.2 l1
  refine ag (ab (gc kI T.int g.2.2.1 lt.1 a b) ?_)
  refine ag (ab (gc kI T.int (eA g.2.2.1) lt.2 b a) ?_)
  refine k (eJ (eJ s.1 a b) b a,.val (.int a),.val (.int b)) ⟨(cB.mp g.1).2,fun k hk=>?_,eA (eA g.2.2.1),GP g.2.2.2 l1 (iw _ b a).2⟩
  exact (eh.mp hk).elim (fun hk=>(eh.mp hk).elim (g.2.1 k) fun e=>e▸h5) fun e=>e▸h6
 ·exact fun s g=>h s.1 g.2.1
theorem wN (cs:List Int) (nd:(32::cs).Nodup) (hc:∀ c∈cs,Cb c=false) (hl:cs.length < 50) (h:Q (HS (32::cs)) none):CN (n+4) 58 [.list (cs.map .int)] none Q:=by
 refine ao (fd:=jB) rfl rfl rfl (ag (ag (C0 fun m hm=>?_)))
 refine ag (And.intro rfl (ab rfl ?_))
 refine cx T.int (fun s:List Int×Slot=>[(1,.val (.list (cs.map .int))),(54,.own false (HS s.1)),(88,.val (DI m)),(2,s.2)]) (fun l s=>s.1++l=32::cs∧∀ c∈l,c∈cs) ?_ ?_ cs ([32],.unb) ⟨rfl,fun _ h=>h⟩
 ·rintro c l ⟨hs,s⟩ ⟨e,hc'⟩ K k
  have e:hs++c::l=32::cs:=e
  have nd':=nd
  rw [← e,cD] at nd'
  have hx:c∉hs:=fun q=>nd'.2.2 c q c (.head _) rfl
  have hlen:hs.length < 100:=by have:=aw List.length e;rw [bS,eF,eF] at this;lia
  have e1:hV hs c=hs++[c]:=av hx
  have nd2:(hs++[c]).Nodup:=by rw [cD];exact ⟨nd'.1,by simp,fun a ha b hb e=>hx (by rw [aV] at hb;rw [← hb,← e];exact ha)⟩
  have e2:hV (hs++[c]) c=hs++[c]:=au (by simp)
  refine ag (ab (rV nd'.1 (by lia) c) ?_)
  rw [e1]
  refine ag (And.intro rfl (ab (lr kI T.int m c (.int c)) ?_))
  have hn:b8 m c=none:=jl.mpr fun q=>by have:=hc c (hc' c (.head _));rw [hm c q] at this;cases this
  rw [hn]
  refine ab (rV nd2 (by rw [bS,List.length_singleton];lia) c) ?_
  rw [e2]
  exact k (hs++[c],.val (.int c)) ⟨by show (hs++[c])++l=_;rw [← e];simp,fun x hx=>hc' x (.tail _ hx)⟩
 ·rintro ⟨hs,s⟩ ⟨e,_⟩
  have e:hs++[]=32::cs:=e
  rw [cr] at e
  subst e
  exact h
end
end
section
noncomputable def fS (cm:List (Int×Int)) (k:Int):Int:=(b8 cm k).getD 0
noncomputable def bJ (S:List Int):List (Int×Int):=S.map fun g=>(g,(S.idxOf g:Int))
theorem gv (S:List Int):keys (bJ S)=S:=by
 unfold bJ;rw [keys,cu];exact List.map_id _
theorem dS (nd:S.Nodup) {g:Int} (h:g∈S):b8 (bJ S) g=some (S.idxOf g:Int):=
 du (by rw [gv];exact nd) (bo.mpr ⟨g,h,rfl⟩)
theorem A1 {g:Int} (h:g∉S):b8 (bJ S) g=none:=jl.mpr (by rw [gv];exact h)
theorem c9 (S:List Int) (g:Int):(b8 (bJ S) g).isSome=decide (g∈S):=by
 by_cases h:g∈S
 ·rw [br h,fp,gv];exact h
 ·rw [decide_eq_false h,A1 h];rfl
theorem Hz {l:List Int} {x:Int} (nd:(a++x::l).Nodup):(a++x::l).idxOf x=a.length:=by
 rw [cD] at nd
 have hx:x∉a:=fun q=>nd.2.2 x q x (.head _) rfl
 rw [List.idxOf_append,av hx,List.idxOf_cons_self];simp
section
variable {n:Nat} {Q:T→Option T→Prop}
theorem vQ (cm:List (Int×Int)) (k:Int) (h:Q (.int (fS cm k)) none):CN (n+1) 1 [i5 (DI cm),.int k] none Q:=by
 refine ao (fd:=i6) rfl rfl rfl (And.intro rfl (ab (lr kI T.int cm k (.int 0)) ?_))
 have e:((b8 cm k).map T.int).getD (.int 0)=.int (fS cm k):=by unfold fS;cases b8 cm k<;>rfl
 rw [e];exact h
theorem mC (cs:T) (h:Q .none none):CN (n+1) 59 [.none,cs] none Q:=ao (fd:=iz) rfl rfl rfl h
theorem HK (nd:hs.Nodup) (k:Int):(hV hs k).Nodup:=by
 unfold hV
 by_cases c:k∈hs
 ·rw [au c];exact nd
 ·rw [av c,cD]
  exact ⟨nd,by simp,fun p hp q hq e=>c (by rw [aV] at hq;rw [← hq,← e];exact hp)⟩
theorem w2 {k x:Int}:x∈hV hs k↔x∈hs∨x=k:=by
 unfold hV
 by_cases c:k∈hs
 ·rw [au c];exact ⟨.inl,fun h=>h.elim id fun e=>e▸c⟩
 ·rw [av c];simp
theorem Gw (cm:List (Int×Int)) (hcm:∀ p∈cm,gl p.2) (ws:List Int) (h:∀ gs:List Int,gs.Pairwise (· < ·)→(∀ x∈gs,gl x)→(∀ x,x∈gs↔x=0∨∃ w∈ws,x=fS cm w)→Q (.list (gs.map .int)) none):CN (n+2) 60 [i5 (DI cm),HS ws] none Q:=by
 have hgl:∀ k,gl (fS cm k):=fun k=>by
  unfold fS
  induction e:b8 cm k with
  | none=>exact ⟨by decide,by decide⟩
  | some v=>exact hcm _ (cW e)
 refine ao (fd:=jY) rfl rfl rfl (ag (And.intro rfl (ab rfl ?_)))
 refine Fj kI (fun _:Unit=>T.bool true) ?_
 rw [g8]
 refine cx T.int (fun s:List Int×Slot=>[(27,.val (i5 (DI cm))),(1,.val (HS ws)),(54,.own false (HS s.1)),(2,s.2),(3,.unb),(33,.unb)])
  (fun l s=>∃ done,ws=done++l∧s.1.Nodup∧(∀ x∈s.1,gl x)∧∀ x,x∈s.1↔x=0∨∃ w∈done,x=fS cm w) ?_ ?_ ws ([0],.unb) ⟨[],rfl,by simp,fun x hx=>by rw [aV.mp hx];exact ⟨by decide,by decide⟩,fun x=>by simp⟩
 ·rintro c l ⟨hs,s⟩ ⟨done,e,nd,hg,hm⟩ K k
  dsimp only at nd hg hm
  refine ag (vQ cm c ?_)
  refine ab (rV (hs:=hs) nd (by have:=jS nd hg;lia) _) ?_
  refine k (hV hs (fS cm c),.val (.int c)) ⟨done++[c],by rw [e];simp,HK nd _,fun x hx=>(w2.mp hx).elim (hg x) fun e=>e▸hgl c,fun x=>?_⟩
  show x∈hV hs (fS cm c)↔_
  rw [w2,hm]
  constructor
  ·rintro ((h | ⟨w,hw,h⟩) | h)
   ·exact .inl h
   ·exact .inr ⟨w,eY _ hw,h⟩
   ·exact .inr ⟨c,dq _ (aV.mpr rfl),h⟩
  ·rintro (h | ⟨w,hw,h⟩)
   ·exact .inl (.inl h)
   ·rcases cH.mp hw with hw | hw
    ·exact .inl (.inr ⟨w,hw,h⟩)
    ·rw [aV.mp hw] at h;exact .inr h
 ·rintro ⟨hs,s⟩ ⟨done,e,nd,hg,hm⟩
  dsimp only at nd hg hm
  rw [cr] at e
  subst e
  refine ag (mC _ (ag ?_))
  refine ab (gm (hs:=hs) nd (by have:=jS nd hg;lia)) ?_
  exact h _ (aJ _) (fun x hx=>hg x (aN.mp hx)) fun x=>by rw [aN];exact hm x
theorem tF (S:List Int) (nd:S.Nodup) (hl:S.length < 100) (h:Q (DI (bJ S)) none):CN (n+1) 61 [.list (S.map .int)] none Q:=by
 refine ao (fd:=mI) rfl rfl rfl (ag (And.intro rfl (ab rfl ?_)))
 refine cx T.int (fun s:List (Int×Int)×Slot=>[(14,.val (.list (S.map .int))),(54,.own false (DI s.1)),(7,s.2)]) (fun l s=>∃ done,S=done++l∧s.1=done.map fun g=>(g,(S.idxOf g:Int))) ?_ ?_ S ([],.unb) ⟨[],rfl,rfl⟩
 ·rintro g l ⟨m,s⟩ ⟨done,e,em'⟩ K k
  have em':m=done.map fun g=>(g,(S.idxOf g:Int)):=em'
  have hkm:keys m=done:=by rw [em',keys,cu];exact List.map_id _
  have nd':=nd
  rw [e,cD] at nd'
  have hx:g∉done:=fun q=>nd'.2.2 g q g (.head _) rfl
  have hi:(S.idxOf g:Int)=((em kI T.int m).length:Int):=by
   rw [e,Hz (by rw [← e];exact nd)]
   unfold em;rw [ba,em',ba]
  have hml:m.length=done.length:=by rw [em',ba]
  have hSl:S.length=done.length+(l.length+1):=by rw [e,bS,eF]
  refine ag (ab (gc kI T.int (m:=m) (by rw [hkm];exact nd'.1) (by have:SZ=1048576:=rfl;lia) g ((em kI T.int m).length:Int)) ?_)
  refine k (eJ m g ((em kI T.int m).length:Int),.val (.int g)) ⟨done++[g],by rw [e];simp,?_⟩
  show eJ m g _=_
  rw [j2 _ (by rw [hkm];exact hx),dJ,← hi,em'];rfl
 ·rintro ⟨m,s⟩ ⟨done,e,em'⟩
  rw [cr] at e
  have em':m=done.map fun g=>(g,(S.idxOf g:Int)):=em'
  subst em'
  rw [show done.map (fun g=>(g,(S.idxOf g:Int)))=bJ S from by rw [← e];rfl]
  exact h
end
end
section
noncomputable abbrev cL (S:List Int) (g:Int):Int:=(S.idxOf g:Int)
theorem ko {a b:Int} (ha:a∈S) (hb:b∈S) (e:cL S a=cL S b):a=b:=by
 have e:S.idxOf a=S.idxOf b:=Int.ofNat.inj e
 have h1:=List.getElem_idxOf (List.idxOf_lt_length_of_mem ha)
 have h2:=List.getElem_idxOf (List.idxOf_lt_length_of_mem hb)
 rw [← h1,← h2];congr 1
theorem mr [DecidableEq κ] {a b:List (κ×ν)} (h:a.Perm b) (nd:(keys a).Nodup) (k:κ):b8 a k=b8 b k:=by
 have nb:(keys b).Nodup:=(h.map Prod.fst).nodup_iff.mp nd
 induction e:b8 a k with
 | some v=>exact (du nb (h.mem_iff.mp (cW e))).symm
 | none=>
  refine (jl.mpr fun c=>jl.mp e ?_).symm
  exact (h.map Prod.fst).mem_iff.mpr c
noncomputable def I8 (l:List κ) (f:κ→ν):List (κ×ν):=l.map fun c=>(c,f c)
theorem iE (l:List κ) (f:κ→ν):keys (I8 l f)=l:=by unfold I8;rw [keys,cu];exact List.map_id _
theorem zx [DecidableEq κ] (l:List κ) (f:κ→ν) (k:κ):b8 (I8 l f) k=if k∈l then some (f k) else none:=by
 induction l with
 | nil=>rfl
 | cons a l ih=>
  show (if a=k then some (f a) else b8 (I8 l f) k)=_
  rw [ih]
  by_cases h:a=k
  ·subst h;simp
  ·by_cases q:k∈l
   ·simp [h,q]
   ·simp [h,q,Ne.symm h]
section
variable {n:Nat} {Q:T→Option T→Prop}
theorem mJ (S:List Int) (nd:S.Nodup) (ks:List Int) (h:Q (if ks.all (fun k=>decide (k∈S)) then .tup (ks.map fun k=>.int (cL S k)) else .none) none):CN (n+1) 42 [.tup (ks.map .int),DI (bJ S)] none Q:=by
 refine ao (fd:=mu) rfl rfl rfl (And.intro rfl (ab rfl ?_))
 refine Az T.int (fun s:Slot=>[(14,.val (.tup (ks.map .int))),(72,.val (DI (bJ S))),(7,s)]) (fun l _=>∃ done,ks=done++l∧∀ x∈done,x∈S) (fun t _=>t=.none∧¬ ∀ x∈ks,x∈S) ?_ ?_ ?_ ks .unb ⟨[],rfl,fun _ h=>nomatch h⟩
 ·intro x xs s ⟨done,e,hd⟩ K k1 k2 k3
  refine ab (qp kI T.int (bJ S) x) ?_
  rw [c9]
  by_cases q:x∈S
  ·rw [br q]
   exact k1 (.val (.int x)) ⟨done++[x],by rw [e];simp,fun y hy=>(cH.mp hy).elim (hd y) fun z=>by rw [aV.mp z];exact q⟩
  ·rw [decide_eq_false q]
   exact k3 _ (.val (.int x)) ⟨rfl,fun c=>q (c x (by rw [e];simp))⟩
 ·rintro _ s ⟨rfl,e⟩
  rw [av (by simpa [aY] using e)] at h;exact h
 ·intro s ⟨done,e,hd⟩
  rw [cr] at e
  subst e
  rw [au (by simpa [aY] using hd)] at h
  refine bc T.int (fun x=>T.int (cL S x)) (fun t=>[(7,t),(14,.val (.tup (ks.map .int))),(72,.val (DI (bJ S))),(7,s)]) (fun _=>trivial) ks (fun x hx t K k=>?_) .unb fun t=>h
  exact ag (ab (bE kI T.int (dS nd (hd x hx))) (k _))
noncomputable def dA (cm:List (Int×Int)) (S ws:List Int):List (Int×Int):=I8 ((canon ws).filter fun c=>fS cm c != 0) fun c=>cL S (fS cm c)
theorem sY (cm:List (Int×Int)) (S ws:List Int) (nd:S.Nodup) (nw:ws.Nodup) (hl:ws.length < 60) (hS:∀ w∈ws,fS cm w∈S) (h0:∀ g∈S,g≠0→cL S g≠0) (h:Q (i5 (DI (dA cm S ws))) none):CN (n+2) 62 [i5 (DI cm),HS ws,DI (bJ S)] none Q:=by
 refine ao (fd:=kR) rfl rfl rfl (ab (gm nw hl) ?_)
 refine qY kI T.int T.int (fun c=>if fS cm c != 0 then some (c,cL S (fS cm c)) else none) (fun s:Slot=>[(2,s),(27,.val (i5 (DI cm))),(1,.val (HS ws)),(72,.val (DI (bJ S))),(92,.unb),(3,.unb)]) (fun _=>trivial) (canon ws) (by have:=bL ws;lia) (fun c hc s K k=>?_) .unb fun s=>?_
 ·refine vQ cm c (fX (fun q=>?_) fun q=>?_)
  ·refine ag (vQ cm c ?_)
   refine ab (bE kI T.int (dS nd (hS c (aN.mp hc)))) ?_
   have:=k (.val (.int c))
   rw [show (fS cm c != 0)=true from q] at this;exact this
  ·have:=k (.val (.int c))
   rw [show (fS cm c != 0)=false from q] at this;exact this
 ·have e1:ip ((canon ws).filterMap fun c=>if fS cm c != 0 then some (c,cL S (fS cm c)) else none)=dA cm S ws:=by
   rw [f7 (fun c=>fS cm c != 0) (fun c=>(c,cL S (fS cm c)))]
   refine iH ?_
   rw [show keys (((canon ws).filter fun c=>fS cm c != 0).map fun c=>(c,cL S (fS cm c)))=(canon ws).filter fun c=>fS cm c != 0 from iE _ _]
   exact (ec (aJ ws)).sublist fM
  have e2:(dA cm S ws).filter (fun p=>p.2 != 0)=dA cm S ws:=by
   refine List.filter_eq_self.mpr fun p hp=>?_
   obtain ⟨c,hc,rfl⟩:=bo.mp hp
   obtain ⟨h1,h2⟩:=b7.mp hc
   have:=h0 _ (hS c (aN.mp h1)) (by simpa using h2)
   simpa using this
  rw [e1]
  refine ag (ag (mC _ (ag ?_)))
  refine And.intro (by decide) (tW (dA cm S ws) ?_ ?_ ?_ [.none] (.inr rfl))
  ·unfold dA;rw [iE];exact (ec (aJ ws)).sublist fM
  ·rw [← bG];unfold dA;rw [iE]
   have h1:=gL (fun c=>fS cm c != 0) (canon ws)
   have h2:=bL ws
   lia
  ·rw [e2];exact And.intro rfl h
noncomputable abbrev Iu (S:List Int):List T:=S.map fun g=>.int (100+g)
noncomputable abbrev zd:T:=yl (.int 1000) (.int 700) (.int (-200)) (.tup ((List.range 12).map fun i=>.int (100+Int.ofNat i))) (.tup ((List.range 12).map dZ))
theorem D7 {k:Nat} {t:T} (h:xs[k]? = some t):getItem (.tup xs) (.int (k:Int))=some t:=by
 show (idxOf k xs.length).bind (fun j=>xs[j]?)=_
 unfold idxOf
 rw [au (Int.natCast_nonneg k),Int.toNat_natCast,au (hM.mp h).1,fR];exact h
theorem Lh {g:Int} (h:gl g):getItem (.tup ((List.range 12).map fun i=>.int (100+Int.ofNat i))) (.int g)=some (.int (100+g)):=by
 obtain ⟨h0,h1⟩:=h
 obtain ⟨k,rfl⟩:=Int.eq_ofNat_of_zero_le h0
 exact D7 (by rw [dO,List.getElem?_range (Int.ofNat_lt.mp h1)];rfl)
theorem Ii {g:Int} (h:gl g):getItem (.tup ((List.range 12).map dZ)) (.int g)=some (.int g):=by
 obtain ⟨h0,h1⟩:=h
 obtain ⟨k,rfl⟩:=Int.eq_ofNat_of_zero_le h0
 exact D7 (by rw [dO,List.getElem?_range (Int.ofNat_lt.mp h1)];rfl)
theorem AW {g:Int} (hg:gl g) (h:Q (.int (100+g)) none):CN (n+1) 52 [zd,.int g] none Q:=by
 refine ao (fd:=t4) rfl rfl rfl (ff (br hg.1) (ff ?_ ?_))
 ·exact br (by simp;exact hg.2)
 ·exact ab (Lh hg) h
theorem AH {g:Int} (hg:gl g) (h:Q (.int g) none):CN (n+1) 53 [zd,.int g] none Q:=by
 refine ao (fd:=ue) rfl rfl rfl (ff (br hg.1) (ff ?_ ?_))
 ·exact br (by simp;exact hg.2)
 ·exact ab (Ii hg) h
theorem tn (S:List Int) (hg:∀ x∈S,gl x) (h:Q (yl (.int 1000) (.int 700) (.int (-200)) (.tup (Iu S)) (.tup (S.map .int))) none):CN (n+2) 63 [zd,.list (S.map .int)] none Q:=by
 refine ao (fd:=kY) rfl rfl rfl ?_
 refine bc T.int (fun g=>T.int (100+g)) (fun s:Slot=>[(7,s),(28,.val zd),(14,.val (.list (S.map .int))),(51,.unb)]) (fun _=>trivial) S (fun g hm s K k=>?_) .unb fun s=>?_
 ·exact ag (AW (hg g hm) (k _))
 refine ag ?_
 refine bc T.int T.int (fun s:Slot=>[(7,s),(28,.val zd),(14,.val (.list (S.map .int))),(51,.val (.list (Iu S)))]) (fun _=>trivial) S (fun g hm s K k=>?_) .unb fun s=>?_
 ·exact ag (AH (hg g hm) (k _))
 exact And.intro (by decide) (tS _ _ _ _ _ (And.intro rfl h))
noncomputable def f8 (cl:List (Int×Int)) (S:List Int) (l:List Int):List (Int×Int):=(l.filter fun g=>decide (g∈S)).map fun g=>(cL S g,(b8 cl g).getD 0)
theorem gU {cl:List (Int×Int)} {l:List Int} (nd:l.Nodup):(keys (f8 cl S l)).Nodup:=by
 unfold f8
 rw [keys,cu,List.nodup_iff_pairwise_ne,List.pairwise_map]
 refine (List.nodup_iff_pairwise_ne.mp (nd.sublist fM)).imp_of_mem fun {a b} ha hb hne e=>hne ?_
 exact ko (bH (b7.mp ha).2) (bH (b7.mp hb).2) e
theorem iF (cl:List (Int×Int)) (nc:(keys cl).Nodup) (hl:cl.length < 60) (S:List Int) (nd:S.Nodup) (h:Q (kA (DI (f8 cl S (canon (keys cl))))) none):CN (n+2) 30 [kA (DI cl),DI (bJ S)] none Q:=by
 refine ao (fd:=iB) rfl rfl rfl (ab (eH T.int nc hl) ?_)
 refine qY kI T.int T.int (fun g=>if decide (g∈S) then some (cL S g,(b8 cl g).getD 0) else none) (fun s:Slot=>[(7,s),(53,.val (kA (DI cl))),(26,.val (DI (bJ S)))]) (fun _=>trivial) (canon (keys cl)) (by have:=bL (keys cl);rw [bG] at this;lia) (fun g hg s K k=>?_) .unb fun s=>?_
 ·refine ab (jN kI T.int (bJ S) g) ?_
  rw [c9]
  have:=k (.val (.int g))
  by_cases q:g∈S
  ·rw [br q] at this ⊢
   obtain ⟨v,hv⟩:=cA (dL hg)
   rw [hv] at this
   exact ag (ab (bE kI T.int (dS nd q)) (ab (bE kI T.int hv) this))
  ·rw [decide_eq_false q] at this ⊢
   exact this
 ·have e1:ip ((canon (keys cl)).filterMap fun g=>if decide (g∈S) then some (cL S g,(b8 cl g).getD 0) else none)=f8 cl S (canon (keys cl)):=by
   rw [f7 (fun g=>decide (g∈S)) (fun g=>(cL S g,(b8 cl g).getD 0))];exact iH (gU (ec (aJ _)))
  rw [e1]
  exact And.intro (by decide) (u7 _ (And.intro rfl h))
theorem jK (S:List Int) (h:Q (.dict []) none):CN (n+1) 43 [.dict [],DI (bJ S)] none Q:=
 ao (fd:=kC) rfl rfl rfl (Bl h)
theorem x6 (cl:List (Int×Int)) (nc:(keys cl).Nodup) (hl:cl.length < 60) (S:List Int) (nd:S.Nodup) (h:Q (un (kA (DI (f8 cl S (canon (keys cl))))) (kA (DI [])) (.list []) (.dict []) (.dict [])) none) :
  CN (n+3) 64 [un (kA (DI cl)) (kA (DI [])) (.list []) (.dict []) (.dict []),DI (bJ S)] none Q:=by
 refine ao (fd:=q8) rfl rfl rfl (cJ ?_)
 refine ag (ag (jK S ?_))
 refine ag (ag (jK S ?_))
 refine ag (ag (iF cl nc hl S nd ?_))
 refine ag (iF [] cK (by decide) S nd ?_)
 exact And.intro (by decide) (Ld _ _ _ _ _ rfl rfl (And.intro rfl h))
end
end
section
section
variable {n:Nat} {Q:T→Option T→Prop}
noncomputable abbrev CP (m:List (Int×Int)) (g:Int):Int:=(b8 m g).getD 0
noncomputable def f9 (S:List Int) (g:Int):Bool:=decide (g∈S)
theorem dD {g:Int} (h:f9 S g=true):g∈S:=bH h
noncomputable def bN (m:List (Int×Int)) (S l:List Int):List (Int×Int):=(l.filter fun g=>f9 S g&&f9 S (CP m g)).map fun g=>(cL S g,cL S (CP m g))
theorem gt {m:List (Int×Int)} {l:List Int} (nd:l.Nodup):(keys (bN m S l)).Nodup:=by
 unfold bN
 rw [keys,cu,List.nodup_iff_pairwise_ne,List.pairwise_map]
 refine (List.nodup_iff_pairwise_ne.mp (nd.sublist fM)).imp_of_mem fun {a b} ha hb hne e=>hne ?_
 have h1:=(b7.mp ha).2;have h2:=(b7.mp hb).2
 rw [bC] at h1 h2
 exact ko (dD h1.1) (dD h2.1) e
theorem iV (m:List (Int×Int)) (S l:List Int):(bN m S l).length≤l.length:=by unfold bN;rw [ba];exact gL _ _
theorem OR:∀ {s:Slot},s=.unb∨(∃ t,s=.val t)→dQ s
 | _,.inl rfl=>trivial
 | _,.inr ⟨_,rfl⟩=>trivial
theorem uB (m:List (Int×Int)) (nm:(keys m).Nodup) (hl:m.length < 60) (S:List Int) (nd:S.Nodup) (h:Q (fw (DI (bN m S (canon (keys m))))) none):CN (n+2) 44 [fw (DI m),DI (bJ S)] none Q:=by
 refine ao (fd:=l7) rfl rfl rfl (ag (ab (eH T.int nm hl) (And.intro rfl (ab rfl ?_))))
 have ncan:=ec (aJ (keys m))
 have lcan:(canon (keys m)).length < 60:=by have:=bL (keys m);rw [bG] at this;lia
 refine cx T.int (fun s:List (Int×Int)×Slot×Slot=>[(26,.val (fw (DI m))),(72,.val (DI (bJ S))),(15,.own false (DI s.1)),(7,s.2.1),(10,s.2.2)])
  (fun l s=>∃ done,canon (keys m)=done++l∧s.1=bN m S done∧dQ s.2.2) ?_ ?_ (canon (keys m)) ([],.unb,.unb) ⟨[],rfl,rfl,trivial⟩
 ·rintro g l ⟨m',s7,s10⟩ ⟨done,e,em',nf⟩ K k
  dsimp only at em' nf
  subst em'
  obtain ⟨v,hv⟩:=cA (dL (show g∈canon (keys m) by rw [e];simp))
  have hvo:CP m g=v:=by unfold CP;rw [hv];rfl
  have nd':=ncan
  rw [e] at nd'
  have fold1:bN m S (done++[g])=bN m S done++bN m S [g]:=by unfold bN;rw [List.filter_append,dJ]
  have dl:done.length < 60:=by have:=aw List.length e;rw [bS] at this;lia
  refine ag (ab (bE kI T.int hv) ?_)
  refine mJ S nd [g,v] ?_
  refine And.intro nf ?_
  by_cases q:g∈S∧v∈S
  ·rw [au (by simp [q.1,q.2])]
   have e1:bN m S [g]=[(cL S g,cL S v)]:=by unfold bN f9;rw [List.filter_cons,hvo];simp [q.1,q.2,hvo]
   have hk:cL S g∉keys (bN m S done):=fun c=>by
    have:=gt (m:=m) (S:=S) (l:=done++[g]) (nd'.sublist (by simp))
    rw [fold1,e1,keys,dJ,cD] at this
    exact this.2.2 _ c _ (.head _) rfl
   refine ag (ag (ag ?_))
   have hs:=gc kI T.int (m:=bN m S done) (gt (nd'.sublist (List.sublist_append_left _ _))) (by have:=iV m S done;have:SZ=1048576:=rfl;lia) (cL S g) (cL S v)
   rw [j2 _ hk] at hs
   refine ab hs ?_
   exact k (bN m S done++[(cL S g,cL S v)],.val (.int g),.val _) ⟨done++[g],by rw [e];simp,by rw [fold1,e1],trivial⟩
  ·rw [av (by simpa using q)]
   have e1:bN m S [g]=[]:=by
    unfold bN f9;rw [List.filter_cons,hvo,av (by simpa using q)];rfl
   exact k (bN m S done,.val (.int g),.val .none) ⟨done++[g],by rw [e];simp,by rw [fold1,e1];simp,trivial⟩
 ·rintro ⟨m',s7,s10⟩ ⟨done,e,em',nf⟩
  dsimp only at em' nf
  subst em'
  rw [cr] at e
  subst e
  exact And.intro (by decide) (wZ _ (And.intro rfl h))
end
end
section
noncomputable def vZ (S:List Int) (p:Int×Int×Int):Bool:=f9 S p.1&&(f9 S p.2.1&&f9 S p.2.2)
noncomputable def Jh (S:List Int) (p:Int×Int×Int):Int×Int×Int:=(cL S p.1,cL S p.2.1,cL S p.2.2)
noncomputable def aT (S:List Int) (l:List (Int×Int×Int)):List (Int×Int×Int):=(l.filter (vZ S)).map (Jh S)
noncomputable def iT (m:List (Int×List (Int×Int))) (f:Int):List (Int×Int×Int):=((b8 m f).getD []).map fun q=>(f,q)
noncomputable def eU (m:List (Int×List (Int×Int))) (l:List Int):List (Int×Int×Int):=l.flatMap (iT m)
theorem wO (S:List Int) (a b:List (Int×Int×Int)):aT S (a++b)=aT S a++aT S b:=by unfold aT;rw [List.filter_append,dJ]
theorem hJ (S:List Int) (a:List (Int×Int×Int)):(aT S a).length≤a.length:=by unfold aT;rw [ba];exact gL _ _
section
variable {n:Nat} {Q:T→Option T→Prop}
noncomputable abbrev JP (m:List (Int×List (Int×Int))) (S:List Int) (l:List (Int×Int×Int)) (a b c d:Slot):Env:=[(26,.val (pi (DL m))),(72,.val (DI (bJ S))),(8,.own false (DL (aQ l))),(9,a),(43,b),(57,c),(10,d)]
theorem Cv (m:List (Int×List (Int×Int))) (gk:Gd m 4) (S:List Int) (nd:S.Nodup) (h:Q (pi (DL (aQ (aT S (eU m (canon (keys m))))))) none):CN (n+2) 45 [pi (DL m),DI (bJ S)] none Q:=by
 refine ao (fd:=jq) rfl rfl rfl (ag (ab (eH gJ gk.nd (by have:=gk.len;lia)) (And.intro rfl (ab rfl ?_))))
 have lcan:(canon (keys m)).length≤4:=by have:=bL (keys m);rw [bG] at this;have:=gk.len;lia
 have hrow:∀ f,(iT m f).length≤4:=fun f=>by
  unfold iT
  rw [ba]
  induction e:b8 m f with
  | none=>exact ck _
  | some v=>exact (gk.rows _ (cW e)).2
 have hlen:∀ l:List Int,(eU m l).length≤4*l.length:=fun l=>by
  induction l with
  | nil=>exact Nat.le_refl _
  | cons f l ih=>unfold eU at ih ⊢;rw [List.flatMap_cons,bS,eF];have:=hrow f;lia
 refine cx T.int (fun s:List (Int×Int×Int)×Slot×Slot×Slot×Slot=>JP m S s.1 s.2.1 s.2.2.1 s.2.2.2.1 s.2.2.2.2)
  (fun l s=>∃ done,canon (keys m)=done++l∧s.1=aT S (eU m done)∧dQ s.2.2.2.2) ?_ ?_ (canon (keys m)) ([],.unb,.unb,.unb,.unb) ⟨[],rfl,rfl,trivial⟩
 ·rintro f l ⟨l',a,b,c,d⟩ ⟨done,e,el,nf⟩ K k
  dsimp only at el nf
  have hdl:(eU m done).length≤16:=by
   have h1:=hlen done
   have:=aw List.length e;rw [bS] at this;lia
  obtain ⟨v,hv⟩:=cA (dL (show f∈canon (keys m) by rw [e];simp))
  have hvl:v.length≤4:=(gk.rows _ (cW hv)).2
  have hrv:iT m f=v.map fun q=>(f,q):=by unfold iT;rw [hv];rfl
  refine ab (bE kI gJ hv) (And.intro rfl (ab rfl ?_))
  refine cx (gV true) (fun s:List (Int×Int×Int)×Slot×Slot×Slot=>JP m S s.1 (.val (.int f)) s.2.1 s.2.2.1 s.2.2.2)
   (fun r s=>∃ dn,v=dn++r∧s.1=aT S (eU m done++dn.map fun q=>(f,q))∧dQ s.2.2.2) ?_ ?_ v (l',b,c,d) ⟨[],rfl,by rw [el];simp,nf⟩
  ·rintro q r ⟨l2,b,c,d⟩ ⟨dn,e2,el2,nf2⟩ K2 k2
   dsimp only at el2 nf2
   have hdn:dn.length≤4:=by have:=aw List.length e2;rw [bS] at this;lia
   have h2len:l2.length≤20:=by
    have h1:=hJ S (eU m done++dn.map fun q=>(f,q))
    rw [← el2,bS,ba] at h1;lia
   have gk2:=jh (l:=l2)
   have nxt:aT S (eU m done++(dn++[q]).map fun q=>(f,q))=l2++aT S [(f,q)]:=by
    rw [el2,← wO,List.append_assoc];simp
   refine ag ?_
   refine mJ S nd [f,q.1,q.2] ?_
   refine And.intro nf2 ?_
   by_cases hq:f∈S∧q.1∈S∧q.2∈S
   ·rw [au (by simp [hq.1,hq.2.1,hq.2.2])]
    have e1:aT S [(f,q)]=[Jh S (f,q)]:=by unfold aT vZ f9;rw [List.filter_cons];simp [hq.1,hq.2.1,hq.2.2]
    refine And.intro rfl (ag (ab (lr kI gJ (aQ l2) (cL S f) (.list [])) ?_))
    rw [tH]
    have hrl:((b8 (aQ l2) (cL S f)).getD []).length≤20:=by
     induction e:b8 (aQ l2) (cL S f) with
     | none=>exact ck _
     | some v=>exact aH (gk2.rows _ (cW e)).2 h2len
    refine ag (ab (add_list (ys:=[T.tup [.tup [.int (cL S q.1)],.int (cL S q.2)]]) (by rw [ba,List.length_singleton];lia)) (ag (ag ?_)))
    rw [show ((b8 (aQ l2) (cL S f)).getD []).map (gV true)++[T.tup [.tup [.int (cL S q.1)],.int (cL S q.2)]]=((b8 (aQ l2) (cL S f)).getD []++[(cL S q.1,cL S q.2)]).map (gV true) from by rw [dJ];rfl]
    refine ab (gc kI gJ (m:=aQ l2) gk2.nd (by have:=gk2.len;have:SZ=1048576:=rfl;lia) (cL S f) _) ?_
    have e3:aQ (l2++[Jh S (f,q)])=rY (aQ l2) (Jh S (f,q)):=by unfold aQ;rw [List.foldl_append];rfl
    have:=k2 (l2++[Jh S (f,q)],.val (.tup [.int q.1]),.val (.int q.2),.val (.tup ([f,q.1,q.2].map fun k=>.int (cL S k)))) ⟨dn++[q],by rw [e2];simp,by rw [nxt,e1],trivial⟩
    dsimp only at this
    unfold JP at this
    rw [e3] at this
    exact this
   ·rw [av (by simpa using hq)]
    have e1:aT S [(f,q)]=[]:=by unfold aT vZ f9;rw [List.filter_cons,av (by simpa using hq)];rfl
    exact k2 (l2,.val (.tup [.int q.1]),.val (.int q.2),.val .none) ⟨dn++[q],by rw [e2];simp,by rw [nxt,e1];simp,trivial⟩
  ·rintro ⟨l2,b,c,d⟩ ⟨dn,e2,el2,nf2⟩
   dsimp only at el2 nf2
   rw [cr] at e2
   subst e2
   exact k (l2,.val (.int f),b,c,d) ⟨done++[f],by rw [e];simp,by dsimp only;rw [el2];unfold eU;rw [List.flatMap_append,List.flatMap_singleton,hrv],nf2⟩
 ·rintro ⟨l',a,b,c,d⟩ ⟨done,e,el,nf⟩
  dsimp only at el nf
  subst el
  rw [cr] at e
  subst e
  exact And.intro (by decide) (IT _ (And.intro rfl h))
noncomputable def sn (S:List Int) (p:Int×Int):Bool:=f9 S p.1&&f9 S p.2
noncomputable def bX (m:List ((Int×Int)×Int)) (S:List Int) (l:List (Int×Int)):List ((Int×Int)×Int):=(l.filter (sn S)).map fun p=>((cL S p.1,cL S p.2),(b8 m p).getD 0)
theorem eS {m:List ((Int×Int)×Int)} {l:List (Int×Int)} (nd:l.Nodup):(keys (bX m S l)).Nodup:=by
 unfold bX
 rw [keys,cu,List.nodup_iff_pairwise_ne,List.pairwise_map]
 refine (List.nodup_iff_pairwise_ne.mp (nd.sublist fM)).imp_of_mem fun {a b} ha hb hne e=>hne ?_
 have h1:=(b7.mp ha).2;have h2:=(b7.mp hb).2
 unfold sn at h1 h2
 rw [bC] at h1 h2
 have e:(cL S a.1,cL S a.2)=(cL S b.1,cL S b.2):=e
 have e':=Prod.mk.inj e
 exact Prod.ext (ko (dD h1.1) (dD h2.1) e'.1) (ko (dD h1.2) (dD h2.2) e'.2)
theorem nU (m:List ((Int×Int)×Int)) (S:List Int) (l:List (Int×Int)):(bX m S l).length≤l.length:=by unfold bX;rw [ba];exact gL _ _
theorem og (m:List ((Int×Int)×Int)) (S:List Int) (a b:List (Int×Int)):bX m S (a++b)=bX m S a++bX m S b:=by unfold bX;rw [List.filter_append,dJ]
theorem qg {m:List ((Int×Int)×Int)} {done l:List (Int×Int)} {p:Int×Int} {v:Int} (nd:(done++p::l).Nodup) (hv:b8 m p=some v) (hl:done.length < 60) (vf:Int→T) :
  (sn S p=true→jJ (D kP vf (bX m S done)) (.tup [.int (cL S p.1),.int (cL S p.2)]) (vf v)=some (D kP vf (bX m S (done++[p]))))∧(sn S p=false→bX m S (done++[p])=bX m S done):=by
 constructor
 ·intro q
  have e1:bX m S [p]=[((cL S p.1,cL S p.2),v)]:=by unfold bX;rw [List.filter_cons,au q];simp [hv]
  have hk:(cL S p.1,cL S p.2)∉keys (bX m S done):=fun c=>by
   have:=eS (m:=m) (S:=S) (l:=done++[p]) (nd.sublist (by simp))
   rw [og,e1,keys,dJ,cD] at this
   exact this.2.2 _ c _ (.head _) rfl
  have hs:=gc kP vf (m:=bX m S done) (eS (nd.sublist (List.sublist_append_left _ _))) (by have:=nU m S done;have:SZ=1048576:=rfl;lia) (cL S p.1,cL S p.2) v
  rw [j2 _ hk,← e1,← og] at hs
  exact hs
 ·intro q
  have e1:bX m S [p]=[]:=by unfold bX;rw [List.filter_cons,av (by rw [q];exact bO)];rfl
  rw [og,e1,cr]
theorem yS (m:List ((Int×Int)×Int)) (nm:(keys m).Nodup) (hl:m.length≤4) (S:List Int) (nd:S.Nodup) (h:Q (D kP T.int (bX m S (bh (keys m)))) none):CN (n+2) 68 [D kP T.int m,DI (bJ S)] none Q:=by
 refine ao (fd:=qe) rfl rfl rfl (ag (ab (kh T.int nm hl) (And.intro rfl (ab rfl ?_))))
 have ncan:(bh (keys m)).Nodup:=(bI _).nodup_iff.mpr nm
 have lcan:(bh (keys m)).length≤4:=by rw [sm,bG];exact hl
 refine cx kP.t (fun s:List ((Int×Int)×Int)×Slot×Slot=>[(32,.val (D kP T.int m)),(72,.val (DI (bJ S))),(54,.own false (D kP T.int s.1)),(33,s.2.1),(10,s.2.2)])
  (fun l s=>∃ done,bh (keys m)=done++l∧s.1=bX m S done∧dQ s.2.2) ?_ ?_ (bh (keys m)) ([],.unb,.unb) ⟨[],rfl,rfl,trivial⟩
 ·rintro p l ⟨m',s7,s10⟩ ⟨done,e,em',nf⟩ K k
  dsimp only at em' nf
  subst em'
  obtain ⟨v,hv⟩:=cA (g7 (show p∈bh (keys m) by rw [e];simp))
  have st:=qg (m:=m) (S:=S) (by rw [← e];exact ncan) hv (by have:=aw List.length e;rw [bS] at this;lia) T.int
  refine ag (mJ S nd [p.1,p.2] (And.intro nf ?_))
  by_cases q:p.1∈S∧p.2∈S
  ·have q2:sn S p=true:=by unfold sn f9;simp [q.1,q.2]
   rw [au (by simp [q.1,q.2])]
   refine ag (ab (bE kP T.int hv) ?_)
   refine ag (ab (st.1 q2) ?_)
   exact k (bX m S (done++[p]),.val (kP.t p),.val (.tup ([p.1,p.2].map fun k=>.int (cL S k)))) ⟨done++[p],by rw [e];simp,rfl,trivial⟩
  ·have q2:sn S p=false:=by unfold sn f9;simpa using q
   rw [av (by simpa using q)]
   exact k (bX m S done,.val (kP.t p),.val .none) ⟨done++[p],by rw [e];simp,(st.2 q2).symm,trivial⟩
 ·rintro ⟨m',s7,s10⟩ ⟨done,e,em',nf⟩
  dsimp only at em' nf
  subst em'
  rw [cr] at e
  subst e
  exact h
theorem yd (m:List ((Int×Int)×Int)) (nm:(keys m).Nodup) (hl:m.length≤4) (S:List Int) (nd:S.Nodup) (h:Q (ed (DA (bX m S (bh (keys m))))) none):CN (n+5) 46 [ed (DA m),DI (bJ S)] none Q:=by
 refine ao (fd:=qZ) rfl rfl rfl (And.intro (show 3 < 14 by decide) (And.intro rfl ?_))
 refine ag (ab (kh fm nm hl) (And.intro rfl (ab rfl ?_)))
 have ncan:(bh (keys m)).Nodup:=(bI _).nodup_iff.mpr nm
 have lcan:(bh (keys m)).length≤4:=by rw [sm,bG];exact hl
 refine cx kP.t (fun s:List ((Int×Int)×Int)×Slot×Slot=>[(26,.val (ed (DA m))),(72,.val (DI (bJ S))),(73,.unb),(74,.unb),(11,.own false (DA s.1)),(13,s.2.1),(10,s.2.2)])
  (fun l s=>∃ done,bh (keys m)=done++l∧s.1=bX m S done∧dQ s.2.2) ?_ ?_ (bh (keys m)) ([],.unb,.unb) ⟨[],rfl,rfl,trivial⟩
 ·rintro p l ⟨m',s7,s10⟩ ⟨done,e,em',nf⟩ K k
  dsimp only at em' nf
  subst em'
  obtain ⟨v,hv⟩:=cA (g7 (show p∈bh (keys m) by rw [e];simp))
  have st:=qg (m:=m) (S:=S) (by rw [← e];exact ncan) hv (by have:=aw List.length e;rw [bS] at this;lia) fm
  refine ag (mJ S nd [p.1,p.2] (And.intro nf ?_))
  by_cases q:p.1∈S∧p.2∈S
  ·have q2:sn S p=true:=by unfold sn f9;simp [q.1,q.2]
   rw [au (by simp [q.1,q.2])]
   refine ab (bE kP fm hv) ?_
   refine ag (ab (st.1 q2) ?_)
   exact k (bX m S (done++[p]),.val (kP.t p),.val (.tup ([p.1,p.2].map fun k=>.int (cL S k)))) ⟨done++[p],by rw [e];simp,rfl,trivial⟩
  ·have q2:sn S p=false:=by unfold sn f9;simpa using q
   rw [av (by simpa using q)]
   exact k (bX m S done,.val (kP.t p),.val .none) ⟨done++[p],by rw [e];simp,(st.2 q2).symm,trivial⟩
 ·rintro ⟨m',s7,s10⟩ ⟨done,e,em',nf⟩
  dsimp only at em' nf
  subst em'
  rw [cr] at e
  subst e
  exact And.intro (by decide) (HT _ (And.intro rfl h))
end
end
section
noncomputable abbrev bj.cutT (S:List Int):bj→T
 | .sg m=>fw (DI (bN m S (canon (keys m))))
 | .lg l=>pi (DL (aQ (aT S (eU (aQ l) (canon (keys (aQ l)))))))
noncomputable def bj.idle (S:List Int):bj→Bool
 | .sg m=>(bN m S (canon (keys m))).isEmpty
 | .lg l=>(aQ (aT S (eU (aQ l) (canon (keys (aQ l)))))).isEmpty
section
variable {n:Nat} {Q:T→Option T→Prop}
theorem Ix (r:bj) (hr:r.ok) (S:List Int) (nd:S.Nodup) (h:Q (r.cutT S) none):CN (n+4) 49 [r.tab,.str r.kind,DI (bJ S)] none Q:=by
 induction r with
 | sg m=>
  refine ao (fd:=gh) rfl rfl rfl (ag ?_)
  refine ao (fd:=eu) rfl rfl rfl (ag ?_)
  exact uB m hr.1 (by have:=hr.2.1;lia) S nd h
 | lg l=>
  refine ao (fd:=gh) rfl rfl rfl (ag ?_)
  refine ao (fd:=eu) rfl rfl rfl (ag ?_)
  have g:=jh (l:=l)
  have hl:l.length≤3:=hr.1
  exact Cv (aQ l) ⟨g.nd,by have:=g.len;lia,fun p hp=>⟨(g.rows p hp).1,by have:=(g.rows p hp).2;lia⟩⟩ S nd h
theorem dK {β:Type} (f:α→β) (l:List α):decide (((l.map f).length:Int)=0)=l.isEmpty:=by induction l<;>simp;lia
theorem MR (r:bj) (S:List Int) (h:Q (.bool (r.idle S)) none):CN (n+1) 50 [r.cutT S,.str r.kind] none Q:=by
 induction r with
 | sg m=>
  have e:=dK (fun p:Int×Int=>(kI.f p.1,T.int p.2)) (bN m S (canon (keys m)))
  have h:Q (.bool (bN m S (canon (keys m))).isEmpty) none:=h
  rw [← e] at h
  exact ao (fd:=kb) rfl rfl rfl h
 | lg l=>
  have e:=dK (fun p:Int×List (Int×Int)=>(kI.f p.1,gJ p.2)) (aQ (aT S (eU (aQ l) (canon (keys (aQ l))))))
  have h:Q (.bool (aQ (aT S (eU (aQ l) (canon (keys (aQ l)))))).isEmpty) none:=h
  rw [← e] at h
  exact ao (fd:=kb) rfl rfl rfl h
theorem DP (m:List ((Int×Int)×Int)) (nm:(keys m).Nodup) (hl:m.length≤4) (S:List Int) (nd:S.Nodup) (h:Q (ed (DA (bX m S (bh (keys m))))) none):CN (n+7) 49 [ed (DA m),.str 33,DI (bJ S)] none Q:=by
 refine ao (fd:=gh) rfl rfl rfl (ag ?_)
 refine ao (fd:=jg) rfl rfl rfl (ag ?_)
 exact yd m nm hl S nd h
theorem Ih (m:List ((Int×Int)×Int)) (h:Q (.bool m.isEmpty) none):CN (n+1) 50 [ed (DA m),.str 33] none Q:=by
 have e:=dK (fun p:(Int×Int)×Int=>(kP.f p.1,fm p.2)) m
 rw [← e] at h
 exact ao (fd:=kb) rfl rfl rfl (And.intro (show 3 < 14 by decide) (And.intro rfl h))
theorem mA (k:Nat) (t t':T) (b:Bool) (S:List Int) (hr:∀ Q:T→Option T→Prop,Q t' none→CN n 49 [t,.str k,DI (bJ S)] none Q) (hi:∀ Q:T→Option T→Prop,Q (.bool b) none→CN n 50 [t',.str k] none Q)
  (h:Q (be k (.list (if b then [] else [t']))) none) (hk:∀ (tb:T) (Q:T→Option T→Prop),Q .none (some (be k tb))→CN n 14 [.str k,.int 0,.int 0,tb] (some (.inst 6 [])) Q):CN (n+1) 65 [be k (.list [t]),DI (bJ S)] none Q:=by
 refine ao (fd:=lS) rfl rfl rfl (dU (ag (hr _ ?_)))
 refine ag (cJ (ag ?_))
 refine dU (ag (hi _ ?_))
 induction b with
 | true=>exact ag (cJ (And.intro (by decide) (hk _ _ (And.intro rfl h))))
 | false=>exact ag (cJ (And.intro (by decide) (hk _ _ (And.intro rfl h))))
end
end
section
noncomputable def aP (tb:α→List T) (ls:List α):List Int:=((List.range ls.length).filter fun i=>match ls[i]? with | some x=>!(tb x).isEmpty | none=>false).map Int.ofNat
theorem B6 {tb:α→List T} {ls:List α} {k:Int} (h:k∈aP tb ls):0≤k∧∃ x,ls[k.toNat]? = some x:=by
 obtain ⟨i,hi,rfl⟩:=bo.mp h
 obtain ⟨h1,h2⟩:=b7.mp hi
 exact ⟨Int.natCast_nonneg _,ls[i]'(List.mem_range.mp h1),cj _⟩
theorem xL (tb:α→List T) (ls:List α):(aP tb ls).Nodup:=by
 unfold aP
 rw [List.nodup_iff_pairwise_ne,List.pairwise_map]
 exact (List.nodup_iff_pairwise_ne.mp (List.nodup_range.sublist fM)).imp fun h e=>h (Int.ofNat.inj e)
theorem BB (tb:α→List T) (ls:List α):(aP tb ls).length≤ls.length:=by
 unfold aP
 rw [ba]
 exact aH (gL _ _) (by rw [ei];exact Nat.le_refl _)
section
variable {n:Nat} {Q:T→Option T→Prop}
theorem HY (k:Nat) (hk:k≠61∧k≠62) (tb ps:T) (h:Q (be k tb) none):CN (n+1) 66 [be k tb,ps] none Q:=by
 refine ao (fd:=jM) rfl rfl rfl (ff ?_ (ff ?_ h))
 ·show (!decide (k=61))=true
  rw [decide_eq_false hk.1];rfl
 ·show (!decide (k=62))=true
  rw [decide_eq_false hk.2];rfl
theorem iy {f:α→T} {ls:List α} {k:Int} {x:α} (h0:0≤k) (h:ls[k.toNat]? = some x):getItem (.list (ls.map f)) (.int k)=some (f x):=
 rN h0 (by rw [dO,h];rfl)
theorem lU (scr tag:T) (named:List Int) (ls:List α) (mk:α→T) (kd:α→Nat) (tb:α→List T) (S:List Int) (hkd:∀ x∈ls,kd x≠61∧kd x≠62) (hl:ls.length < 60)
  (hc:∀ x∈ls,∀ Q:T→Option T→Prop,Q (be (kd x) (.list (tb x))) none→CN (n+1) 65 [mk x,DI (bJ S)] none Q)
  (h:Q (bl scr tag ((named.filter (f9 (aP tb ls))).map (cL (aP tb ls))) ((aP tb ls).map fun k=>match ls[k.toNat]? with | some x=>be (kd x) (.list (tb x)) | none=>.none)) none) :
  CN (n+2) 67 [bl scr tag named (ls.map mk),DI (bJ S)] none Q:=by
 refine ao (fd:=iK) rfl rfl rfl ?_
 refine bc mk (fun x=>be (kd x) (.list (tb x))) (fun s:Slot=>[(47,s),(55,.val (bl scr tag named (ls.map mk))),(72,.val (DI (bJ S))),(44,.unb),(93,.unb),(39,.unb),(46,.unb)]) (fun _=>trivial) ls (fun x hx s K k=>?_) .unb fun s=>?_
 ·exact ag (hc x hx _ (k _))
 have ln:=BB tb ls
 refine ag (ag ?_)
 refine ab (fq (d:=((ls.map fun x=>be (kd x) (.list (tb x))).length:Int)) (Int.natCast_nonneg _) (by rw [ba];lia)) ?_
 refine bg dZ (fun i=>match ls[i]? with | some x=>!(tb x).isEmpty | none=>false) dZ (fun s:Slot=>[(56,s),(55,.val (bl scr tag named (ls.map mk))),(72,.val (DI (bJ S))),(44,.val (.list (ls.map fun x=>be (kd x) (.list (tb x))))),(93,.unb),(39,.unb),(46,.unb)]) (fun i=>.val (dZ i)) (fun _=>trivial) (List.range (Int.toNat ((ls.map fun x=>be (kd x) (.list (tb x))).length:Int))) (fun i hi s K k=>?_) (fun i hi hp K k=>?_) .unb fun s=>?_
 ·have hlt:i < ls.length:=by have:=List.mem_range.mp hi;rw [ba] at this;simpa using this
  have e:ls[i]? = some ls[i]:=cj hlt
  rw [e] at k
  refine ag (ab (iy (Int.natCast_nonneg i) (show ls[(Int.ofNat i).toNat]? = some ls[i] from e)) ?_)
  induction q:!(tb ls[i]).isEmpty with
  | true=>dsimp only at k;rw [q] at k;exact ff q k
  | false=>dsimp only at k;rw [q] at k;exact fQ q k
 ·exact k _
 ·have e:((List.range (Int.toNat ((ls.map fun x=>be (kd x) (.list (tb x))).length:Int))).filter fun i=>match ls[i]? with | some x=>!(tb x).isEmpty | none=>false).map dZ=(aP tb ls).map T.int:=by
   unfold aP
   rw [cu,ba];rfl
  rw [e]
  refine tF (aP tb ls) (xL tb ls) (by lia) ?_
  refine ag (ag (And.intro rfl (ab rfl (r9 ?_))))
  refine ag ?_
  refine bg T.int (f9 (aP tb ls)) (fun k=>.int (cL (aP tb ls) k)) (fun s:Slot=>[(56,s),(55,.val (bl scr tag named (ls.map mk))),(72,.val (DI (bJ S))),(44,.val (.list (ls.map fun x=>be (kd x) (.list (tb x))))),(93,.val (DI (bJ (aP tb ls)))),(39,.own false (.list [])),(46,.val (oA tag (.list (named.map .int))))]) (fun i=>.val (.int i)) (fun _=>trivial) named (fun k hk s K kk=>?_) (fun k hk hp K kk=>?_) .unb fun s=>?_
  ·refine ab (jN kI T.int (bJ (aP tb ls)) k) ?_
   rw [c9]
   induction q:f9 (aP tb ls) k with
   | true=>rw [q] at kk;exact ff q kk
   | false=>rw [q] at kk;exact fQ q kk
  ·exact ag (ab (bE kI T.int (dS (xL tb ls) (dD hp))) (kk _))
  ·refine And.intro (by decide) (t8 tag _ (And.intro rfl ?_))
   refine uw ?_
   refine gj kI T.int ?_
   rw [gv]
   refine bc T.int (fun k=>match ls[k.toNat]? with | some x=>be (kd x) (.list (tb x)) | none=>.none) (fun s:Slot=>[(56,s),(55,.val (bl scr tag named (ls.map mk))),(72,.val (DI (bJ S))),(44,.val (.list (ls.map fun x=>be (kd x) (.list (tb x))))),(93,.val (DI (bJ (aP tb ls)))),(39,.val (.list [oA tag (.list ((named.filter (f9 (aP tb ls))).map fun k=>.int (cL (aP tb ls) k)))])),(46,.val (oA tag (.list (named.map .int))))]) (fun _=>trivial) (aP tb ls) (fun k hk s K kk=>?_) .unb fun s=>?_
   ·obtain ⟨h0,x,hx⟩:=B6 hk
    have hm:=List.mem_of_getElem? hx
    refine ag (ag (ab (iy h0 hx) ?_))
    refine HY (kd x) (hkd x hm) _ _ ?_
    have:=kk (.val (.int k))
    rw [hx] at this
    exact this
   ·have e2:((named.filter (f9 (aP tb ls))).map (cL (aP tb ls))).map T.int=(named.filter (f9 (aP tb ls))).map fun k=>T.int (cL (aP tb ls) k):=by rw [cu];rfl
    unfold bl at h
    rw [e2] at h
    exact And.intro (by decide) (wG _ _ _ (And.intro rfl h))
end
end
section
noncomputable abbrev jz:T:=.dict [(.S 103,ID (.str 103) (zv (.int (-1)) (.list [.int 0])) (.dict []))]
structure Fo where
 rows:List bj
 named:List Int
 codes:List (Int×Int)
 cls:List (Int×Int)
 kern:List ((Int×Int)×Int)
 pairs:List ((Int×Int)×Int)
 pos:Bool
structure Fo.ok (f:Fo):Prop where
 rl:f.rows.length≤4
 rows:∀ r∈f.rows,r.ok
 named:fy f.named f.rows.length
 nl:f.named.length≤4
 cn:(keys f.codes).Nodup
 cl:f.codes.length≤6
 cg:∀ p∈f.codes,gl p.2
 kn:(keys f.cls).Nodup
 kl:f.cls.length≤4
 ke:(keys f.kern).Nodup
 kel:f.kern.length≤4
 pn:(keys f.pairs).Nodup
 pl:f.pairs.length≤4
noncomputable abbrev Fo.cm (f:Fo):List (Int×Int):=f.codes.filter fun p=>p.2 != 0
noncomputable abbrev Fo.R (f:Fo):List bj:=f.named.map fun k=>f.rows.getD k.toNat (.sg [])
noncomputable abbrev Fo.gsub (f:Fo):T:=if f.rows.isEmpty then .none else bl jz (.str 114) f.named (f.rows.map bj.look)
noncomputable abbrev Fo.gpos (f:Fo):T:=if f.pos then bl jz (.str 32) [0] [be 33 (.list [ed (DA f.pairs)])] else .none
noncomputable abbrev Ji (c:T):T:=un c (kA (DI [])) (.list []) (.dict []) (.dict [])
noncomputable abbrev Fo.t (f:Fo):T:=qM (i5 (DI f.cm)) zd (Ji (kA (DI f.cls))) f.gsub f.gpos (D kP T.int f.kern)
noncomputable def EF (f:Fo) (cs gs:List Int):Prop:=∀ x,x∈gs↔x=0∨∃ w∈(32::cs),x=fS f.cm w
structure Aw (cs:List Int):Prop where
 nd:(32::cs).Nodup
 ok:∀ c∈cs,Cb c=false
 len:cs.length < 50
structure MJ (f:Fo) (cs S:List Int):Prop where
 one:∀ gs S',EF f cs gs→fT gs f.R S'→S'=S
 ex:∃ gs,EF f cs gs∧fT gs f.R S
section
variable {n:Nat} {Q:T→Option T→Prop}
theorem Fo.gs_of (f:Fo) (h:f.ok):(f.gsub=.none∧f.R=[])∨∃ (scr tag:T) (named:List Int) (rows:List bj),f.gsub=bl scr tag named (rows.map bj.look)∧(∀ r∈rows,r.ok)∧fy named rows.length∧named.length < 60∧f.R=named.map fun k=>rows.getD k.toNat (.sg []):=by
 by_cases e:f.rows.isEmpty=true
 ·left
  refine ⟨au e,?_⟩
  have hn:f.named=[]:=by
   induction q:f.named with
   | nil=>rfl
   | cons a l=>
    have:=h.named.in_ a (by rw [q];simp)
    rw [List.isEmpty_iff.mp e] at this
    simp at this;lia
  unfold Fo.R;rw [hn];rfl
 ·right
  exact ⟨jz,.str 114,f.named,f.rows,av e,h.rows,h.named,by have:=h.nl;lia,rfl⟩
theorem I1 {f:Fo} (h:f.ok):∀ p∈f.cm,gl p.2:=fun p hp=>h.cg p (b7.mp hp).1
theorem F3 (f:Fo) (h:f.ok) (cs:List Int) (hc:Aw cs) (hS:MJ f cs S) (k:Q (.list (S.map .int)) none):CN (n+7) 69 [f.t,.list (cs.map .int)] none Q:=by
 refine ao (fd:=k8) rfl rfl rfl (ag (ag (ag ?_)))
 refine wN cs hc.nd hc.ok hc.len ?_
 refine Gw f.cm (I1 h) (32::cs) fun gs g1 g2 g3=>?_
 refine B1 gs (ec g1) g2 f.R (f.gs_of h) fun S' hk=>?_
 rw [hS.one gs S' g3 hk]
 exact k
noncomputable def ch (S:List Int) (r:bj):List T:=if r.idle S then [] else [r.cutT S]
noncomputable def nT (ls:List α) (kd:α→Nat) (tb:α→List T) (k:Int):T:=match ls[k.toNat]? with | some x=>be (kd x) (.list (tb x)) | none=>.none
noncomputable abbrev Fo.gsub' (f:Fo) (S:List Int):T:=if f.rows.isEmpty then .none else
 bl jz (.str 114) ((f.named.filter (f9 (aP (ch S) f.rows))).map (cL (aP (ch S) f.rows))) ((aP (ch S) f.rows).map (nT f.rows bj.kind (ch S)))
noncomputable abbrev Fo.kp (f:Fo) (S:List Int):List ((Int×Int)×Int):=bX f.pairs S (bh (keys f.pairs))
noncomputable def jV (f:Fo) (S:List Int) (_:Unit):List T:=if (f.kp S).isEmpty then [] else [ed (DA (f.kp S))]
noncomputable abbrev Fo.gpos' (f:Fo) (S:List Int):T:=if f.pos then
 bl jz (.str 32) ((([0]:List Int).filter (f9 (aP (jV f S) [()]))).map (cL (aP (jV f S) [()]))) ((aP (jV f S) [()]).map (nT [()] (fun _=>33) (jV f S))) else .none
noncomputable abbrev Fo.cut (f:Fo) (cs S:List Int):T:=qM (i5 (DI (dA f.cm S (32::cs)))) (yl (.int 1000) (.int 700) (.int (-200)) (.tup (Iu S)) (.tup (S.map .int)))
 (Ji (kA (DI (f8 f.cls S (canon (keys f.cls)))))) (f.gsub' S) (f.gpos' S) (D kP T.int (bX f.kern S (bh (keys f.kern))))
theorem kG (S:T) (k:Q .none none):CN (n+1) 67 [.none,S] none Q:=ao (fd:=iK) rfl rfl rfl k
theorem Da (f:Fo) (h:f.ok) (cs:List Int) (hc:Aw cs) (hS:MJ f cs S) (k:Q (f.cut cs S) none):CN (n+10) 70 [f.t,.list (cs.map .int)] none Q:=by
 obtain ⟨gs,hb,hk⟩:=hS.ex
 have nd:=hk.nd
 have zero:(0:Int)∈S:=hk.lfp.sub 0 ((hb 0).mpr (.inl rfl))
 have h0:∀ g∈S,g≠0→cL S g≠0:=fun g hg hne e=>by
  induction q:S with
  | nil=>rw [q] at hg;cases hg
  | cons a l=>
   have ha:cL S a=0:=by rw [q];simp [cL]
   have:g=a:=ko hg (by rw [q];simp) (e.trans ha.symm)
   subst this
   have hz:(0:Int)∈g::l:=by rw [← q];exact zero
   rcases aU.mp hz with hz | hz
   ·exact hne hz.symm
   ·have h1:=hk.inc
    rw [q] at h1
    have h2:=(List.pairwise_cons.mp h1).1 0 hz
    have:=(hk.gl g hg).1
    lia
 have hgs:∀ Q:T→Option T→Prop,Q (f.gsub' S) none→CN (n+9) 67 [f.gsub,DI (bJ S)] none Q:=by
  intro Q k
  induction e:f.rows.isEmpty with
  | true=>
   unfold Fo.gsub' at k;unfold Fo.gsub
   rw [au e] at k ⊢;exact kG _ k
  | false=>
   unfold Fo.gsub' at k;unfold Fo.gsub
   rw [av (by rw [e];exact bO)] at k ⊢
   refine lU jz (.str 114) f.named f.rows bj.look bj.kind (ch S) S (fun r _=>match r with | .sg _=>⟨show 16≠61 by decide,show 16≠62 by decide⟩ | .lg _=>⟨show 57≠61 by decide,show 57≠62 by decide⟩) (by have:=h.rl;lia) (fun r hr Q k=>?_) k
   rw [bj.look_eq]
   refine mA r.kind r.tab (r.cutT S) (r.idle S) S (fun Q k=>Ix r (h.rows r hr) S nd k) (fun Q k=>MR r S k) k (fun tb Q k=>iG _ _ k)
 have hgp:∀ Q:T→Option T→Prop,Q (f.gpos' S) none→CN (n+9) 67 [f.gpos,DI (bJ S)] none Q:=by
  intro Q k
  induction e:f.pos with
  | false=>
   unfold Fo.gpos' at k;unfold Fo.gpos
   rw [av (by rw [e];exact bO)] at k ⊢;exact kG _ k
  | true=>
   unfold Fo.gpos' at k;unfold Fo.gpos
   rw [au e] at k ⊢
   refine lU jz (.str 32) [0] [()] (fun _=>be 33 (.list [ed (DA f.pairs)])) (fun _=>33) (jV f S) S (fun r _=>⟨by decide,by decide⟩) (by decide) (fun r hr Q k=>?_) k
   refine mA 33 (ed (DA f.pairs)) (ed (DA (f.kp S))) (f.kp S).isEmpty S (fun Q k=>DP f.pairs h.pn h.pl S nd k) (fun Q k=>Ih (f.kp S) k) k (fun tb Q k=>iG _ _ k)
 refine ao (fd:=xo) rfl rfl rfl (ag (wN cs hc.nd hc.ok hc.len ?_))
 refine ag (ag (F3 f h cs hc hS ?_))
 refine ag (ag (tF S nd (by have:=hk.len;lia) ?_))
 refine ag (ag (sY f.cm S (32::cs) nd hc.nd (by rw [eF];have:=hc.len;lia) (fun w hw=>hk.lfp.sub _ ((hb _).mpr (.inr ⟨w,hw,rfl⟩))) h0 ?_))
 refine ag (ag (x6 f.cls h.kn (by have:=h.kl;lia) S nd ?_))
 refine ag ?_
 refine dU (ag (hgs _ ?_))
 refine ag (dU (ag (hgp _ ?_)))
 refine ag (cJ (ag ?_))
 refine ag (tn S hk.gl ?_)
 refine ag (ag (ag ?_))
 refine yS f.kern h.ke h.kel S nd ?_
 exact And.intro (by decide) (DQ _ _ _ _ _ _ (And.intro rfl k))
end
end
section
noncomputable def bj.left (S:List Int):bj→bj
 | .sg m=>.sg (bN m S (keys m))
 | .lg l=>.lg (aT S l)
noncomputable def bj.bare:bj→Bool
 | .sg m=>m.isEmpty
 | .lg l=>l.isEmpty
theorem tf (S:List Int) (p:Int×Int×Int):((([p.1,p.2.1,p.2.2].filter fun g=>!f9 S g).map T.int).isEmpty)=vZ S p:=by
 unfold vZ
 cases h1:f9 S p.1<;>cases h2:f9 S p.2.1<;>cases h3:f9 S p.2.2<;>simp [h1,h2,h3]
section
variable {n:Nat} {Q:T→Option T→Prop}
theorem Kh (r:bj) (hr:r.ok) (S:List Int) (nd:S.Nodup) (h:Q (r.left S).t none):CN (n+1) 76 [r.t,DI (bJ S)] none Q:=by
 induction r with
 | sg m=>
  obtain ⟨nm,hl,_⟩:=hr
  refine ao (fd:=lI) rfl rfl rfl (ag (ag ?_))
  refine gj kI T.int ?_
  refine bg T.int (fun g=>f9 S g&&f9 S (CP m g)) (fun g=>T.tup [.int (cL S g),.int (cL S (CP m g))]) (fun s:Slot=>[(7,s),(10,.val (bj.sg m).t),(93,.val (DI (bJ S))),(92,.unb)]) (fun g=>.val (.int g)) (fun _=>trivial) (keys m) (fun g hg s K k=>?_) (fun g hg hp K k=>?_) .unb fun s=>?_
  ·obtain ⟨v,hv⟩:=cA hg
   have hvo:CP m g=v:=by unfold CP;rw [hv];rfl
   rw [hvo] at k
   refine ab (jN kI T.int (bJ S) g) ?_
   rw [c9]
   induction q:f9 S g with
   | false=>rw [q] at k;exact fQ q k
   | true=>
    rw [q] at k
    refine ff q (ag (ab (bE kI T.int hv) ?_))
    refine ab (jN kI T.int (bJ S) v) ?_
    rw [c9]
    induction q2:f9 S v with
    | false=>rw [q2] at k;exact fQ q2 k
    | true=>rw [q2] at k;exact ff q2 k
  ·obtain ⟨v,hv⟩:=cA hg
   have hvo:CP m g=v:=by unfold CP;rw [hv];rfl
   rw [bC] at hp
   rw [hvo] at hp k
   refine ag (ab (bE kI T.int (dS nd (dD hp.1))) ?_)
   refine ag (ag (ab (bE kI T.int hv) ?_))
   exact ab (bE kI T.int (dS nd (dD hp.2))) (k _)
  ·have e:((keys m).filter fun g=>f9 S g&&f9 S (CP m g)).map (fun g=>T.tup [.int (cL S g),.int (cL S (CP m g))])=(bN m S (keys m)).map fun p=>T.tup [kI.t p.1,T.int p.2]:=by
    unfold bN;rw [cu];rfl
   rw [e]
   refine ab (iU kI T.int (bN m S (keys m)) (by have:=iV m S (keys m);rw [bG] at this;have:SZ=1048576:=rfl;lia)) ?_
   rw [iH (gt nm)]
   exact h
 | lg l=>
  refine ao (fd:=lI) rfl rfl rfl (ag (ag ?_))
  refine bg je (vZ S) je (fun s:Slot=>[(109,s),(10,.val (bj.lg l).t),(93,.val (DI (bJ S))),(92,.unb)]) (fun p=>.val (je p)) (fun _=>trivial) l (fun p hp s K k=>?_) (fun p hp _ K k=>?_) .unb fun s=>?_
  ·refine bg T.int (fun g=>!f9 S g) T.int (fun s:Slot=>[(7,s),(109,.val (je p)),(10,.val (bj.lg l).t),(93,.val (DI (bJ S))),(92,.unb)]) (fun g=>.val (.int g)) (fun _=>trivial) [p.1,p.2.1,p.2.2] (fun g hg s K2 k2=>?_) (fun g hg hp K2 k2=>?_) .unb fun s=>?_
   ·refine ab (qp kI T.int (bJ S) g) ?_
    rw [c9]
    induction q:f9 S g with
    | false=>rw [q] at k2;exact ff (by rw [show decide (g∈S)=false from q];rfl) k2
    | true=>rw [q] at k2;exact fQ (by rw [show decide (g∈S)=true from q];rfl) k2
   ·exact k2 _
   ·refine ab (Dj (d:=0) (PL.ints _) (by decide)) ?_
    rw [tf]
    induction q:vZ S p with
    | false=>rw [q] at k;exact k
    | true=>rw [q] at k;exact k
  ·exact k _
  ·refine ag ?_
   refine bc je (fun p=>je (Jh S p)) (fun s:Slot=>[(109,s),(10,.val (bj.lg l).t),(93,.val (DI (bJ S))),(92,.val (.list ((l.filter (vZ S)).map je)))]) (fun _=>trivial) (l.filter (vZ S)) (fun p hp s K k=>?_) .unb fun s=>?_
   ·have h3:=(b7.mp hp).2
    unfold vZ at h3
    rw [bC,bC] at h3
    refine bc T.int (fun g=>T.int (cL S g)) (fun s:Slot=>[(7,s),(109,.val (je p)),(10,.val (bj.lg l).t),(93,.val (DI (bJ S))),(92,.val (.list ((l.filter (vZ S)).map je)))]) (fun _=>trivial) [p.1,p.2.1,p.2.2] (fun g hg s K2 k2=>?_) .unb fun s=>?_
    ·have hin:g∈S:=by
      simp only [aU,List.not_mem_nil,or_false] at hg
      rcases hg with rfl | rfl | rfl
      ·exact dD h3.1
      ·exact dD h3.2.1
      ·exact dD h3.2.2
     exact ag (ab (bE kI T.int (dS nd hin)) (k2 _))
    ·exact k _
   ·have e:(l.filter (vZ S)).map (fun p=>je (Jh S p))=(aT S l).map je:=by unfold aT;rw [cu];rfl
    rw [e];exact h
end
end
section
theorem oS (m:List (Int×Int)) (S:List Int) (h:a.Perm b):(bN m S a).Perm (bN m S b):=(h.filter _).map _
theorem rB (h:∀ x,x∈a↔x∈b):canon a=canon b:=bV (aJ _) (aJ _) fun x=>by rw [aN,aN];exact h x
theorem zb {a b:List (Int×Int)} (h:a.Perm b) (nd:(keys a).Nodup):i4 T.int a=i4 T.int b:=by
 unfold i4
 rw [rB (b:=keys b) fun x=>(h.map Prod.fst).mem_iff]
 refine iD fun k _=>?_
 unfold s8
 rw [mr h nd]
theorem xX {a b:List (Int×List (Int×Int))} (hk:∀ x,x∈keys a↔x∈keys b) (h:∀ k,(b8 a k).getD []=(b8 b k).getD []):oX a=oX b:=by
 unfold oX
 rw [rB hk]
 refine iD fun k _=>?_
 unfold hZ
 rw [h]
theorem zp (l:List (Int×Int×Int)) (g:Int):∀ {ks:List Int},ks.Nodup→(eU (aQ l) ks).filter (fun p=>decide (p.1=g))=if g∈ks then l.filter (fun p=>decide (p.1=g)) else []
 | [],_=>rfl
 | f::ks,nd=>by
  obtain ⟨h1,h2⟩:=cP.mp nd
  unfold eU
  rw [List.flatMap_cons,List.filter_append]
  have ih:=zp l g h2
  unfold eU at ih
  rw [ih]
  have e:iT (aQ l) f=l.filter fun p=>decide (p.1=f):=by
   unfold iT
   rw [fL,cu]
   refine (iD fun p hp=>?_).trans (List.map_id _)
   show (f,p.2)=p
   rw [← bH (b7.mp hp).2]
  rw [e,List.filter_filter]
  by_cases h:f=g
  ·subst h
   rw [av h1,au (by simp),cr]
   simp
  ·have e2:(l.filter fun p=>decide (p.1=g)&&decide (p.1=f))=[]:=List.filter_eq_nil_iff.mpr fun p _ c=>by
    rw [bC] at c
    exact h ((bH c.2).symm.trans (bH c.1))
   rw [e2,List.nil_append]
   by_cases q:g∈ks
   ·rw [au q,au (by simp [q])]
   ·rw [av q,av (by simp [q,Ne.symm h])]
theorem rX (S:List Int) (X:List (Int×Int×Int)) {g:Int} (hg:g∈S):(aT S X).filter (fun p=>decide (p.1=cL S g))=((X.filter fun p=>decide (p.1=g)).filter (vZ S)).map (Jh S):=by
 unfold aT
 rw [List.filter_map,List.filter_filter,List.filter_filter]
 congr 1
 refine List.filter_congr fun p _=>?_
 show (decide (cL S p.1=cL S g)&&vZ S p)=(vZ S p&&decide (p.1=g))
 induction q:vZ S p with
 | false=>simp
 | true=>
  have hp:p.1∈S:=by unfold vZ at q;rw [bC] at q;exact dD q.1
  rw [Bool.and_true,Bool.true_and]
  by_cases e:p.1=g
  ·rw [e,br rfl,br rfl]
  ·rw [decide_eq_false e,decide_eq_false fun c=>e (ko hp hg c)]
theorem xR {X:List (Int×Int×Int)} {p:Int×Int×Int} (h:p∈aT S X):∃ g∈S,p.1=cL S g:=by
 obtain ⟨q,hq,rfl⟩:=bo.mp h
 have:=(b7.mp hq).2
 unfold vZ at this
 rw [bC] at this
 exact ⟨q.1,dD this.1,rfl⟩
theorem lu (l:List (Int×Int×Int)) (S:List Int) (k:Int):(aT S (eU (aQ l) (canon (keys (aQ l))))).filter (fun p=>decide (p.1=k))=(aT S l).filter (fun p=>decide (p.1=k)):=by
 by_cases h:∃ g∈S,k=cL S g
 ·obtain ⟨g,hg,rfl⟩:=h
  rw [rX S _ hg,rX S _ hg,zp l g (ec (aJ _))]
  by_cases q:g∈canon (keys (aQ l))
  ·rw [au q]
  ·rw [av q]
   have e:(l.filter fun p=>decide (p.1=g))=[]:=List.filter_eq_nil_iff.mpr fun p hp c=>q (aN.mpr ((iM l g).mpr ⟨p,hp,bH c⟩))
   rw [e]
 ·have e:∀ X,(aT S X).filter (fun p=>decide (p.1=k))=[]:=fun X=>List.filter_eq_nil_iff.mpr fun p hp c=>by
   obtain ⟨g,hg,e⟩:=xR hp
   exact h ⟨g,hg,by rw [← e];exact (bH c).symm⟩
  rw [e,e]
theorem gf {X Y:List (Int×Int×Int)} (h:∀ k,X.filter (fun p=>decide (p.1=k))=Y.filter (fun p=>decide (p.1=k))) (p:Int×Int×Int) (hp:p∈X):p∈Y:=by
 have:p∈X.filter (fun q=>decide (q.1=p.1)):=b7.mpr ⟨hp,br rfl⟩
 rw [h] at this
 exact (b7.mp this).1
theorem Ev (l:List (Int×Int×Int)) (S:List Int):oX (aQ (aT S (eU (aQ l) (canon (keys (aQ l))))))=oX (aQ (aT S l)):=by
 have hf:=lu l S
 refine xX (fun x=>?_) fun k=>?_
 ·rw [iM,iM]
  exact ⟨fun ⟨p,hp,e⟩=>⟨p,gf hf p hp,e⟩,fun ⟨p,hp,e⟩=>⟨p,gf (fun k=>(hf k).symm) p hp,e⟩⟩
 ·rw [fL,fL,hf]
theorem xe (l:List (Int×Int×Int)):(aQ l).isEmpty=l.isEmpty:=by
 induction l with
 | nil=>rfl
 | cons p l=>
  have hk:p.1∈keys (aQ (p::l)):=(iM _ _).mpr ⟨p,.head _,rfl⟩
  induction e:aQ (p::l) with
  | nil=>rw [e] at hk;exact nomatch hk
  | cons a b=>rfl
theorem mw {a b:List α} (h:a.Perm b):a.isEmpty=b.isEmpty:=by
 induction a with
 | nil=>rw [List.nil_perm.mp h]
 | cons x a=>
  induction b with
  | nil=>exact absurd h.length_eq (by simp)
  | cons y b=>rfl
theorem BO (r:bj) (hr:r.ok) (S:List Int):r.idle S=(r.left S).bare:=by
 induction r with
 | sg m=>exact mw (oS m S (gQ hr.1))
 | lg l=>
  show (aQ (aT S (eU (aQ l) (canon (keys (aQ l)))))).isEmpty=(aT S l).isEmpty
  rw [xe]
  have hf:=lu l S
  induction e:aT S (eU (aQ l) (canon (keys (aQ l)))) with
  | nil=>
   induction e2:aT S l with
   | nil=>rfl
   | cons a b=>
    have:=gf (fun k=>(hf k).symm) a (by rw [e2];exact .head _)
    rw [e] at this;exact nomatch this
  | cons a b=>
   induction e2:aT S l with
   | nil=>
    have:=gf hf a (by rw [e];exact .head _)
    rw [e2] at this;exact nomatch this
   | cons _ _=>rfl
noncomputable def bj.told:bj→T
 | .sg m=>.tup [.str 16,.int 0,.int (-1),.tup [.tup (.str 16::i4 T.int m)]]
 | .lg l=>.tup [.str 57,.int 0,.int (-1),.tup [.tup (oX (aQ l))]]
theorem tP {r:bj} (hr:match r with | .sg m=>(keys m).Nodup∧m.length < 60 | .lg l=>l.length≤4):dT (n+4) r.look r.told:=by
 induction r with
 | sg m=>exact fK 16 (oh m hr.1 hr.2)
 | lg l=>
  have g:=jh (l:=l)
  have hr:l.length≤4:=hr
  exact fK 57 (wT (aQ l) g.nd (by have:=g.len;lia) fun p hp=>⟨(g.rows p hp).1,aH (g.rows p hp).2 hr⟩)
theorem C3 (r:bj) (hr:r.ok) (S:List Int):dT (n+4) (be r.kind (.list [r.cutT S])) (r.left S).told:=by
 induction r with
 | sg m=>
  obtain ⟨nm,hl,_⟩:=hr
  have hn:=ec (aJ (keys m))
  have hlen:(bN m S (canon (keys m))).length < 60:=by have:=iV m S (canon (keys m));have:=bL (keys m);rw [bG] at this;lia
  have:=fK (n:=n+3) 16 (oh (n:=n+2) (bN m S (canon (keys m))) (gt hn) hlen)
  rw [zb (oS m S (gQ nm)) (gt hn)] at this
  exact this
 | lg l=>
  have hl:l.length≤3:=hr.1
  have g0:=jh (l:=l)
  have g:=jh (l:=aT S (eU (aQ l) (canon (keys (aQ l)))))
  have hk:∀ k,((b8 (aQ (aT S (eU (aQ l) (canon (keys (aQ l)))))) k).getD []).length≤3:=fun k=>by
   rw [fL,lu,ba]
   exact aH (gL _ _) (aH (hJ S l) hl)
  have htr:∀ ks:List Int,(eU (aQ l) ks).length≤3*ks.length:=fun ks=>by
   induction ks with
   | nil=>exact Nat.le_refl _
   | cons f ks ih=>
    unfold eU at ih ⊢
    rw [List.flatMap_cons,bS,eF]
    have:(iT (aQ l) f).length≤3:=by
     unfold iT;rw [fL,ba,ba];exact aH (gL _ _) hl
    lia
  have:=fK (n:=n+3) 57 (wT (n:=n) (aQ (aT S (eU (aQ l) (canon (keys (aQ l)))))) g.nd (by
   have h1:=g.len
   have h2:=hJ S (eU (aQ l) (canon (keys (aQ l))))
   have h3:=htr (canon (keys (aQ l)))
   have h4:=bL (keys (aQ l))
   rw [bG] at h4
   have h5:=g0.len
   lia) fun p hp=>⟨(g.rows p hp).1,by
    have h1:=hk p.1
    rw [du g.nd (show (p.1,p.2)∈_ from hp)] at h1
    have h1:p.2.length≤3:=h1
    lia⟩)
  rw [Ev] at this
  exact this
end
section
noncomputable abbrev bj.body:bj→T | .sg m=>DI m | .lg l=>.list (l.map je)
theorem GO (r:bj):getItem r.t (.int 1)=some r.body:=by induction r<;>rfl
theorem ym (r:bj):qO r.body=some (!r.bare):=by
 induction r with
 | sg m=>exact DJ kI T.int m
 | lg l=>show some (!(l.map je).isEmpty)=_;induction l<;>rfl
theorem GX (l:List Int) (k:Int):ky .In (.int k) (.list (l.map T.int))=some (l.contains k):=by
 show (cZ (l.map T.int)).map (fun l=>l.contains k)=_
 rw [g6];rfl
theorem xj {l:List Int} {k:Int} (h:k∈l):NC .index (.list (l.map T.int)) [.int k]=some (.int (l.idxOf k:Int)):=by
 show ((cZ (l.map T.int)).bind fun l=>if l.contains k then some (T.int (l.idxOf k)) else none)=_
 rw [g6,fR,au (fH.mpr h)]
theorem Bj (r:bj) (hr:r.ok) (S:List Int):(!(ch S r).isEmpty)=!(r.left S).bare:=by
 unfold ch
 rw [BO r hr S]
 cases (r.left S).bare<;>rfl
theorem x5 [DecidableEq κ] (K:KE κ) (hK:∀ k,PL 1 (K.t k)) (m:List (κ×Int)) (k:κ):PL 2 (s8 K T.int m k):=by
 refine .tup 1 _ fun x hx=>?_
 rcases aU.mp hx with rfl | hx
 ·exact hK k
 ·rw [aV.mp hx]
  induction b8 m k with
  | none=>exact .none 1
  | some v=>exact .int 1 v
theorem DF {a b:T} {d:Nat} (h1:PL d a) (h2:PL d b):PL (d+1) (.tup [a,b]):=.tup d _ fun x hx=>by
 rcases aU.mp hx with rfl | hx
 ·exact h1
 ·rw [aV.mp hx];exact h2
theorem zG (r:bj):PL 8 r.told:=by
 have four:∀ {a b c e:T},PL 7 a→PL 7 b→PL 7 c→PL 7 e→PL 8 (.tup [a,b,c,e]):=fun ha hb hc he=>.tup 7 _ fun x hx=>by
  simp only [aU,List.not_mem_nil,or_false] at hx
  rcases hx with rfl | rfl | rfl | rfl
  ·exact ha
  ·exact hb
  ·exact hc
  ·exact he
 induction r with
 | sg m=>
  refine four (.str 7 _) (.int 7 _) (.int 7 _) (.tup 6 _ fun x hx=>?_)
  rw [aV.mp hx]
  refine .tup 5 _ fun y hy=>?_
  rcases aU.mp hy with rfl | hy
  ·exact .str 5 _
  ·obtain ⟨k,_,rfl⟩:=bo.mp hy
   exact (x5 kI (fun k=>.int 1 k) m k).up (by decide)
 | lg l=>
  refine four (.str 7 _) (.int 7 _) (.int 7 _) (.tup 6 _ fun x hx=>?_)
  rw [aV.mp hx]
  refine .tup 5 _ fun y hy=>?_
  obtain ⟨k,_,rfl⟩:=bo.mp hy
  refine DF (.int 4 _) (.tup 3 _ fun z hz=>?_)
  obtain ⟨p,_,rfl⟩:=bo.mp hz
  exact DF (.tup 1 _ fun w hw=>by rw [aV.mp hw];exact .int 1 _) (.int 2 _)
section
variable {n:Nat} {Q:T→Option T→Prop}
noncomputable abbrev eZ (rows:List bj) (k:Int):bj:=rows.getD k.toNat (.sg [])
theorem uL (rows:List bj) (hr:∀ r∈rows,r.ok) (hl:rows.length≤4) (named:List Int) (S:List Int) (nd:S.Nodup) (h:Q (.bool true) none) :
  CN (n+5) 77 [bl jz (.str 114) ((named.filter (f9 (aP (ch S) rows))).map (cL (aP (ch S) rows))) ((aP (ch S) rows).map (nT rows bj.kind (ch S))),.list (rows.map bj.t),.list (named.map .int),DI (bJ S)] none Q:=by
 have lv:∀ k∈aP (ch S) rows,0≤k∧eZ rows k∈rows∧rows[k.toNat]? = some (eZ rows k)∧(ch S (eZ rows k)).isEmpty=false:=fun k hk=>by
  obtain ⟨i,hi,rfl⟩:=bo.mp hk
  obtain ⟨h1,h2⟩:=b7.mp hi
  have hlt:=List.mem_range.mp h1
  have e:rows[i]? = some rows[i]:=cj hlt
  have e2:eZ rows (Int.ofNat i)=rows[i]'(List.mem_range.mp h1):=by
   show rows.getD i (.sg [])=_
   rw [g9,e];rfl
  rw [e2]
  refine ⟨Int.natCast_nonneg _,List.getElem_mem _,e,?_⟩
  rw [e] at h2
  simpa using h2
 generalize hcut:bl jz (.str 114) ((named.filter (f9 (aP (ch S) rows))).map (cL (aP (ch S) rows))) ((aP (ch S) rows).map (nT rows bj.kind (ch S)))=cut
 refine ao (fd:=iu) rfl rfl rfl ?_
 refine bc bj.t (fun r=>(r.left S).t) (fun s:Slot=>[(10,s),(113,.val cut),(4,.val (.list (rows.map bj.t))),(104,.val (.list (named.map .int))),(93,.val (DI (bJ S))),(110,.unb),(111,.unb),(112,.unb)]) (fun _=>trivial) rows (fun r hm s K k=>?_) .unb fun s=>?_
 ·exact ag (Kh r (hr r hm) S nd (k _))
 refine ag ?_
 refine ab (fq (d:=((rows.map bj.t).length:Int)) (Int.natCast_nonneg _) (by rw [ba];lia)) ?_
 refine bg (ok:=fun _=>True) dZ (fun i=>match rows[i]? with | some x=>!(ch S x).isEmpty | none=>false) dZ (fun s:Slot=>[(56,s),(113,.val cut),(4,.val (.list (rows.map bj.t))),(104,.val (.list (named.map .int))),(93,.val (DI (bJ S))),(110,.val (.list (rows.map fun r=>(r.left S).t))),(111,.unb),(112,.unb)]) (fun i=>.val (dZ i)) (fun _=>trivial) (List.range (Int.toNat ((rows.map bj.t).length:Int))) (fun i hi s K k=>?_) (fun i hi hp K k=>?_) .unb fun s=>?_
 ·have hlt:i < rows.length:=by have:=List.mem_range.mp hi;rw [ba] at this;simpa using this
  have e:rows[i]? = some rows[i]:=cj hlt
  rw [e] at k
  dsimp only at k
  rw [Bj _ (hr _ (List.getElem_mem hlt)) S] at k
  refine ag (ab (iy (f:=fun r:bj=>(r.left S).t) (Int.natCast_nonneg i) (show rows[(Int.ofNat i).toNat]? = some rows[i] from e)) ?_)
  refine ab (GO _) (ab (ym _) ?_)
  induction q:!(rows[i].left S).bare with
  | true=>rw [q] at k;exact ff rfl k
  | false=>rw [q] at k;exact fQ rfl k
 ·exact k _
 have e:((List.range (Int.toNat ((rows.map bj.t).length:Int))).filter fun i=>match rows[i]? with | some x=>!(ch S x).isEmpty | none=>false).map dZ=(aP (ch S) rows).map T.int:=by
  unfold aP
  rw [cu,ba,Int.toNat_natCast]
  refine aw _ (List.filter_congr fun i _=>?_)
  cases rows[i]?<;>rfl
 rw [e]
 refine ag ?_
 refine bc (ok:=fun _=>True) T.int (fun k=>((eZ rows k).left S).told) (fun s:Slot=>[(56,s),(113,.val cut),(4,.val (.list (rows.map bj.t))),(104,.val (.list (named.map .int))),(93,.val (DI (bJ S))),(110,.val (.list (rows.map fun r=>(r.left S).t))),(111,.val (.list ((aP (ch S) rows).map .int))),(112,.unb)]) (fun _=>trivial) (aP (ch S) rows) (fun k hk s K kk=>?_) .unb fun s=>?_
 ·obtain ⟨h0,hm,hx,_⟩:=lv k hk
  have ro:=hr _ hm
  refine ag (ag (ab (iy (f:=fun r:bj=>(r.left S).t) h0 hx) ?_))
  have hleft:(match (eZ rows k).left S with | .sg m=>m.length≤8 | .lg l=>l.length < 100)∧(match (eZ rows k).left S with | .sg m=>(keys m).Nodup∧m.length < 60 | .lg l=>l.length≤4):=by
   induction q:eZ rows k with
   | sg m=>
    rw [q] at ro
    have:=iV m S (keys m)
    rw [bG] at this
    have h2:=ro.2.1
    exact ⟨by show (bN m S (keys m)).length≤8;lia,gt ro.1,by lia⟩
   | lg l=>
    rw [q] at ro
    have:=hJ S l
    have h2:=ro.1
    exact ⟨by show (aT S l).length < 100;lia,by show (aT S l).length≤4;lia⟩
  refine xO hleft.1 ?_
  exact (tP (n:=n) hleft.2).go (kk _)
 refine ag ?_
 subst hcut
 refine bc (ok:=fun _=>True) (nT rows bj.kind (ch S)) (fun k=>((eZ rows k).left S).told) (fun s:Slot=>[(47,s),(113,.val (bl jz (.str 114) ((named.filter (f9 (aP (ch S) rows))).map (cL (aP (ch S) rows))) ((aP (ch S) rows).map (nT rows bj.kind (ch S))))),(4,.val (.list (rows.map bj.t))),(104,.val (.list (named.map .int))),(93,.val (DI (bJ S))),(110,.val (.list (rows.map fun r=>(r.left S).t))),(111,.val (.list ((aP (ch S) rows).map .int))),(112,.val (.list ((aP (ch S) rows).map fun k=>((eZ rows k).left S).told)))]) (fun _=>trivial) (aP (ch S) rows) (fun k hk s K kk=>?_) .unb fun s=>?_
 ·obtain ⟨h0,hm,hx,hb⟩:=lv k hk
  have e:nT rows bj.kind (ch S) k=be (eZ rows k).kind (.list [(eZ rows k).cutT S]):=by
   unfold nT
   rw [hx]
   dsimp only
   unfold ch at hb ⊢
   induction q:(eZ rows k).idle S with
   | true=>rw [q] at hb;cases hb
   | false=>rfl
  rw [e]
  exact (C3 (n:=n) _ (hr _ hm) S).go (kk _)
 refine ab (uU (d:=9) (.list 8 _ fun x hx=>by obtain ⟨k,_,rfl⟩:=bo.mp hx;exact zG _) (by decide)) ?_
 refine bg (ok:=fun _=>True) T.int (fun k=>(aP (ch S) rows).contains k) (fun k=>.int (cL (aP (ch S) rows) k)) (fun s:Slot=>[(56,s),(113,.val (bl jz (.str 114) ((named.filter (f9 (aP (ch S) rows))).map (cL (aP (ch S) rows))) ((aP (ch S) rows).map (nT rows bj.kind (ch S))))),(4,.val (.list (rows.map bj.t))),(104,.val (.list (named.map .int))),(93,.val (DI (bJ S))),(110,.val (.list (rows.map fun r=>(r.left S).t))),(111,.val (.list ((aP (ch S) rows).map .int))),(112,.val (.list ((aP (ch S) rows).map fun k=>((eZ rows k).left S).told)))]) (fun k=>.val (.int k)) (fun _=>trivial) named (fun k hk s K kk=>?_) (fun k hk hp K kk=>?_) .unb fun s=>?_
 ·refine ab (GX _ k) ?_
  induction q:(aP (ch S) rows).contains k with
  | true=>rw [q] at kk;exact ff rfl kk
  | false=>rw [q] at kk;exact fQ rfl kk
 ·exact And.intro rfl (ab (xj (fH.mp hp)) (kk _))
 have e3:((named.filter (f9 (aP (ch S) rows))).map (cL (aP (ch S) rows))).map T.int=(named.filter fun k=>(aP (ch S) rows).contains k).map fun k=>T.int (cL (aP (ch S) rows) k):=by
  rw [cu]
  have e4:named.filter (f9 (aP (ch S) rows))=named.filter fun k=>(aP (ch S) rows).contains k:=List.filter_congr fun k _=>by
   unfold f9
   induction q:(aP (ch S) rows).contains k with
   | true=>exact br (fH.mp q)
   | false=>exact decide_eq_false fun c=>by rw [fH.mpr c] at q;cases q
  rw [e4];rfl
 rw [← e3]
 refine ab (wn (d:=1) (.list 0 _ (PL.ints _)) (by decide)) ?_
 exact h
end
end
section
noncomputable abbrev LE (a0 a1 a2 a3 a4 a5 a6 a7 a8 a9 a10 a11 a12 a13 a14 a15 a16 a17 a18:Slot):Env:=
 [(115,a0),(96,a1),(4,a2),(104,a3),(1,a4),(6,a5),(32,a6),(11,a7),(30,a8),(31,a9),(28,a10),(69,a11),(116,a12),(117,a13),(67,a14),(112,a15),(93,a16),(113,a17),(118,a18)]
theorem zi {m:List ((Int×Int)×Int)} (h:∀ p∈m,gl p.1.1∧gl p.1.2):bi .dict (DA m)=some (DA m):=by
 show (if jv (em kP fm m)=true then some (T.dict _) else none)=_
 rw [au]
 unfold jv em
 rw [Bool.or_eq_true]
 right
 rw [List.all_map,aY]
 intro p hp
 obtain ⟨h1,h2⟩:=h p hp
 exact br ⟨h1.1,h1.2,h2.1,h2.2⟩
section
variable {n:Nat}
theorem Jo {Q:T→Option T→Prop} (tag:T) (feats:List T) (ls:T) (h:Q (C6 jz (.list [oA tag (.list feats)]) ls) none):CN (n+2) 72 [tag,.list feats,ls] none Q:=by
 refine ao (fd:=mf) rfl rfl rfl (And.intro (by decide) (Mj _ _ (And.intro rfl ?_)))
 refine And.intro (by decide) (DZ _ _ _ (And.intro rfl ?_))
 refine And.intro (by decide) (t8 _ _ (And.intro rfl ?_))
 exact And.intro (by decide) (wG _ _ _ (And.intro rfl h))
theorem E9 (a0 a1 a4 a5 a6 a7:Slot) (rows:List bj) (named:List Int) (hr:∀ r∈rows,r.ok) (K:T→Env→Prop)
  (h:K (if rows.isEmpty then .none else bl jz (.str 114) named (rows.map bj.look)) (LE a0 a1 (.val (.list (rows.map bj.t))) (.val (.list (named.map .int))) a4 a5 a6 a7 .unb .unb .unb .unb .unb .unb .unb .unb .unb .unb .unb)) :
  iW (cQ (.v 4)) (aK 72 (aa (ah (.str 114)) (aa (ae 104) (aa (aE [10] (.v 4) (.one 10) aI (aK 74 (aa (ae 10) ak) none)) ak))) none) (ah .none) (CN (n+4)) (LE a0 a1 (.val (.list (rows.map bj.t))) (.val (.list (named.map .int))) a4 a5 a6 a7 .unb .unb .unb .unb .unb .unb .unb .unb .unb .unb .unb) K:=by
 induction e:rows.isEmpty with
 | true=>
  rw [au e] at h
  refine fQ ?_ h
  induction rows with
  | nil=>rfl
  | cons _ _=>exact bt e
 | false=>
  rw [av (by rw [e];exact bO)] at h
  refine ff ?_ ?_
  ·induction rows with
   | nil=>exact nomatch e
   | cons _ _=>rfl
  ·refine ag ?_
   refine bc (ok:=fun _=>True) bj.t bj.look (fun s:Slot=>(10,s)::LE a0 a1 (.val (.list (rows.map bj.t))) (.val (.list (named.map .int))) a4 a5 a6 a7 .unb .unb .unb .unb .unb .unb .unb .unb .unb .unb .unb) (fun _=>trivial) rows (fun r hm s K kk=>?_) .unb fun s=>?_
   ·refine ag (xO ?_ (kk _))
    have:=hr r hm
    induction r with
    | sg m=>show m.length≤8;have:=this.2.1;lia
    | lg l=>show l.length < 100;have:=this.1;lia
   ·exact Jo _ _ _ h
theorem EA (a0 a2 a3 a4 a5 a6 a8:Slot) (pa:List ((Int×Int)×Int)) (hp:∀ p∈pa,gl p.1.1∧gl p.1.2) (p:jD) (k:Int) (hk:p.ok k) (hk2:k < 9000) (K:T→Env→Prop)
  (h:∀ (pos:Bool) (p':jD),p'.ok (k+1)→K (if pos then bl jz (.str 32) [0] [be 33 (.list [ed (DA pa)])] else .none) (LE a0 (.own false p'.t) a2 a3 a4 a5 a6 (.val (DA pa)) a8 .unb .unb .unb .unb .unb .unb .unb .unb .unb .unb)) :
  iW (aD .Eq (aK 71 (aa (ah (.int 2)) ak) (some 96)) (.e (ah (.int 1)))) (aK 72 (aa (ah (.str 32)) (aa (bM (aa (ah (.int 0)) ak)) (aa (bM (aa (dF 6 14 (aa (ah (.str 33)) (aa (ah (.int 0)) (aa (ah (.int 0)) (aa (bM (aa (dF 3 7 (aa (bW .dict (.v 11)) ak)) ak)) ak))))) ak)) ak))) none) (ah .none) (CN (n+5))
   (LE a0 (.own false p.t) a2 a3 a4 a5 a6 (.val (DA pa)) a8 .unb .unb .unb .unb .unb .unb .unb .unb .unb .unb) K:=by
 refine ag (dE 2 (by decide) p k hk (by lia) fun d p' d0 d1 hp'=>ab rfl ?_)
 refine fX (fun q=>?_) fun q=>?_
 ·refine ag (ab (zi hp) ?_)
  refine And.intro (by decide) (zt _ (And.intro rfl ?_))
  refine And.intro (by decide) (iG _ _ (And.intro rfl ?_))
  exact Jo _ _ _ (h true p' hp')
 ·exact h false p' hp'
end
end
section
theorem bx {d:Nat} (h:∀ x∈xs,PL d x):PL (d+1) (.tup xs):=.tup d xs h
theorem aB {d:Nat} {a:T} (h:PL d a) (hs:∀ x∈xs,PL d x):∀ x∈a::xs,PL d x:=fun x hx=>by
 rcases aU.mp hx with rfl | hx
 ·exact h
 ·exact hs x hx
theorem b4 {d:Nat}:∀ x∈([]:List T),PL d x:=fun _ h=>nomatch h
theorem ig {d:Nat} {f:α→T} {l:List α} (h:∀ x,PL d (f x)):∀ x∈l.map f,PL d x:=fun x hx=>by
 obtain ⟨y,_,rfl⟩:=bo.mp hx;exact h y
theorem xH (m:List (Int×Int)):PL 3 (.tup (i4 T.int m)):=bx (ig fun k=>x5 kI (fun k=>.int 1 k) m k)
theorem D4 (m:List ((Int×Int)×Int)):PL 5 (.tup (k5 m)):=by
 refine bx (ig fun k=>?_)
 refine bx (aB (bx (aB (.int 2 _) (aB (.int 2 _) b4))) (aB (bx ?_) b4))
 refine aB (bx (aB (.int 1 _) (aB (.int 1 _) (aB (.int 1 _) (aB (.int 1 _) b4))))) (aB (bx (aB (.int 1 _) (aB (.int 1 _) (aB (.int 1 _) (aB (.int 1 _) b4))))) b4)
noncomputable abbrev IE:T:=.tup [.str 103,.tup [.int (-1),.tup [.int 0]],.tup []]
theorem IM:PL 9 IE:=bx (aB (.str 8 _) (aB (bx (aB (.int 7 _) (aB (bx (aB (.int 6 _) b4)) b4))) (aB (bx b4) b4)))
section
variable {n:Nat}
theorem D3:dT (n+2) (ID (.str 103) (zv (.int (-1)) (.list [.int 0])) (.dict [])) IE:=xt (.str 103) (B7 (.int (-1)) [.int 0]) rfl
theorem wS (tag:T) (named:List Int) (ls:List α) (mk tl:α→T) (h:∀ x∈ls,dT (n+4) (mk x) (tl x)) :
  dT (n+5) (bl jz tag named (ls.map mk)) (.tup [.tup [IE],.tup [.tup [tag,.tup (named.map .int)]],.tup (ls.map tl)]):=
 wu ls mk tl (D3 (n:=n+2)) (uR (n:=n+3) tag _) h
theorem F8 {tag:T} {named:List Int} {us:List T} (ht:PL 8 tag) (h:∀ x∈us,PL 9 x):PL 11 (.tup [.tup [IE],.tup [.tup [tag,.tup (named.map .int)]],.tup us]):=
 bx (aB (bx (aB IM b4)) (aB (bx (aB (bx (aB ht (aB (bx (ig fun k=>.int 7 k)) b4))) b4)) (aB (bx h) b4)))
theorem lz (m:List ((Int×Int)×Int)) (nm:(keys m).Nodup) (hl:m.length≤4):dT (n+4) (be 33 (.list [ed (DA m)])) (.tup [.str 33,.int 0,.int (-1),.tup [.tup [.str 14,.bool false,.tup (k5 m)]]]):=fK 33 (AI m nm hl)
theorem wj (m:List ((Int×Int)×Int)):PL 9 (.tup [.str 33,.int 0,.int (-1),.tup [.tup [.str 14,.bool false,.tup (k5 m)]]]):=
 bx (aB (.str 8 _) (aB (.int 8 _) (aB (.int 8 _) (aB (bx (aB (bx (aB (.str 6 _) (aB (.bool 6 _) (aB ((D4 m).up (by decide)) b4)))) b4)) b4))))
theorem wq:∀ r:bj,r.ok→match r with | .sg m=>(keys m).Nodup∧m.length < 60 | .lg l=>l.length≤4
 | .sg m,h=>⟨h.1,by have:=h.2.1;lia⟩
 | .lg l,h=>by show l.length≤4;have:=h.1;lia
theorem Cs (f:Fo) (h:f.ok):∃ u,PL 12 u∧dT (n+7) f.t u:=by
 have hs:∃ us,PL 11 us∧((f.gsub=.none∧us=.none)∨(bZ f.gsub=false∧dT (n+5) f.gsub us)):=by
  unfold Fo.gsub
  induction e:f.rows.isEmpty with
  | true=>exact ⟨.none,.none 11,.inl ⟨au rfl,rfl⟩⟩
  | false=>
   rw [av bO]
   exact ⟨_,F8 (.str 8 _) (ig fun r=>(zG r).up (by decide)),.inr ⟨rfl,wS (.str 114) f.named f.rows bj.look bj.told fun r hr=>tP (wq r (h.rows r hr))⟩⟩
 have hp:∃ up,PL 11 up∧((f.gpos=.none∧up=.none)∨(bZ f.gpos=false∧dT (n+5) f.gpos up)):=by
  unfold Fo.gpos
  induction e:f.pos with
  | false=>exact ⟨.none,.none 11,.inl ⟨av bO,rfl⟩⟩
  | true=>
   rw [au rfl]
   exact ⟨_,F8 (.str 8 _) (ig fun r=>wj f.pairs),.inr ⟨rfl,wS (.str 32) [0] [()] (fun _=>be 33 (.list [ed (DA f.pairs)])) (fun _=>.tup [.str 33,.int 0,.int (-1),.tup [.tup [.str 14,.bool false,.tup (k5 f.pairs)]]]) fun r hr=>lz f.pairs h.pn h.pl⟩⟩
 obtain ⟨us,l1,hs⟩:=hs
 obtain ⟨up,l2,hp⟩:=hp
 have ncm:(keys f.cm).Nodup:=h.cn.sublist (List.Sublist.map _ fM)
 have lcm:f.cm.length < 60:=eD (gL _ _) (by have:=h.cl;lia)
 refine ⟨_,?_,Bp (n:=n+5) f.kern (.int 1000) (.int 700) (.int (-200)) h.ke h.kel (BS f.cm ncm lcm) (Bd (n:=n+4) f.cls h.kn (by have:=h.kl;lia)) hs hp⟩
 refine bx (aB (bx (aB ((xH _).up (by decide)) (aB (.none 10) b4))) (aB (bx ?_) (aB (bx ?_) (aB l1 (aB l2 (aB (bx ?_) b4))))))
 ·exact aB (.int 10 _) (aB (.int 10 _) (aB (.int 10 _) (aB (bx (ig fun i=>.int 9 _)) (aB (bx (ig fun i=>.int 9 _)) b4))))
 ·exact aB ((xH _).up (by decide)) (aB (bx b4) (aB (bx b4) (aB (bx b4) (aB (bx b4) b4))))
 ·exact ig fun k=>(x5 kP (fun k=>bx (aB (.int 0 _) (aB (.int 0 _) b4))) f.kern k).up (by decide)
end
end
section
noncomputable abbrev QA (p:(Int×Int)×Int):T:=.tup [kP.t p.1,.int p.2]
noncomputable abbrev Qp (p:(Int×Int)×Int):T:=.tup [kP.t p.1,fm p.2]
theorem yq {i:Nat} {done l:List Nat} (e:List.range n=done++i::l):i=done.length:=by
 have h:(List.range n)[done.length]? = some i:=by rw [e];simp
 have hl:done.length < n:=by have:=aw List.length e;rw [ei,bS,eF] at this;lia
 rw [List.getElem?_range hl] at h
 exact (az h).symm
theorem L6 {cs:List Int} (h:cs.Sublist [97,98,99,100,101,500]):Aw cs:=by
 have h2:(32::cs).Sublist [32,97,98,99,100,101,500]:=h.cons_cons 32
 refine ⟨List.Nodup.sublist h2 (by decide),fun c hc=>?_,?_⟩
 ·have:=h.subset hc
  revert this
  have key:∀ c∈([97,98,99,100,101,500]:List Int),Cb c=false:=by decide
  exact key c
 ·have:=h.length_le
  exact eD this (by decide)
theorem qo {codes:List (Int×Int)} (nd:(keys codes).Nodup) (w:Int):fS (codes.filter fun p=>p.2 != 0) w=fS codes w:=by
 have nf:(keys (codes.filter fun p=>p.2 != 0)).Nodup:=nd.sublist (List.Sublist.map _ fM)
 unfold fS
 induction e:b8 (codes.filter fun p=>p.2 != 0) w with
 | some v=>rw [du nd (b7.mp (cW e)).1]
 | none=>
  induction e2:b8 codes w with
  | none=>rfl
  | some v=>
   by_cases h:v=0
   ·rw [h];rfl
   ·have:=du nf (b7.mpr ⟨cW e2,by simpa using h⟩)
    rw [e] at this;exact nn this
theorem nM (f:Fo) (S:List Int):bZ f.gsub=f.rows.isEmpty∧bZ (f.gsub' S)=f.rows.isEmpty:=by
 unfold Fo.gsub Fo.gsub'
 induction e:f.rows.isEmpty with
 | true=>exact ⟨by rw [au rfl];rfl,by rw [au rfl];rfl⟩
 | false=>exact ⟨by rw [av bO];rfl,by rw [av bO];rfl⟩
theorem nK (f:Fo) (S:List Int):bZ f.gpos=!f.pos∧bZ (f.gpos' S)=!f.pos:=by
 unfold Fo.gpos Fo.gpos'
 induction e:f.pos with
 | true=>exact ⟨by rw [au rfl];rfl,by rw [au rfl];rfl⟩
 | false=>exact ⟨by rw [av bO];rfl,by rw [av bO];rfl⟩
theorem wC {a b:List (Int×Int)} (h:a.Perm b) (nd:a.Nodup):bh a=bh b:=
 Af (ia nd) (ia (h.nodup_iff.mp nd)) (((bI a).trans h).trans (bI b).symm)
theorem ya {a b:List ((Int×Int)×Int)} (h:a.Perm b) (nd:(keys a).Nodup):k5 a=k5 b:=by
 unfold k5
 rw [wC (h.map Prod.fst) nd]
 refine iD fun k _=>?_
 unfold lN
 rw [mr h nd]
theorem Jc (f:Fo) (S:List Int):aP (jV f S) [()]=if (f.kp S).isEmpty then [] else [0]:=by
 unfold aP
 have e:jV f S ()=if (f.kp S).isEmpty then [] else [ed (DA (f.kp S))]:=rfl
 show (([0]:List Nat).filter fun i=>match [()][i]? with | some x=>!(jV f S x).isEmpty | none=>false).map Int.ofNat=_
 induction q:(f.kp S).isEmpty with
 | true=>rw [q] at e;simp [e]
 | false=>rw [q] at e;simp [e]
theorem lT {k:Nat} (h:n≤k) (hk:k≤1048576):n≤SZ:=aH h hk
theorem jD.ok.le {a b:Int} (h:p.ok a) (hl:a≤b):p.ok b:=⟨h.1,Int.le_trans h.2 hl⟩
theorem jD.ok.snoc {c:Int} {bs:List α} {x:α} (h:p.ok (c+bs.length+1)):p.ok (c+(bs++[x]).length):=h.le (by rw [jL];lia)
theorem jD.ok.snoc2 {c:Int} {bs:List α} {x:α} (h:p.ok (c+2*bs.length+1+1)):p.ok (c+2*(bs++[x]).length):=h.le (by rw [jL];lia)
theorem P1 {c k:Int} {m:Nat} {K:Nat} (e:n+m=K) (hK:(K:Int)≤k) (h:c+k < 10000):c+n < 10000:=by lia
theorem Qa {c k:Int} {m:Nat} {K:Nat} (e:n+m=K) (hK:(K:Int)≤k) (h:c+2*k < 9000):c+2*n < 10000∧c+2*n+1 < 10000:=by lia
theorem uV {r a l:List α} {i:α} (e:a++i::l=r):a.length+(l.length+1)=r.length:=by rw [← e,bS,eF]
theorem Fi (h:bs.Pairwise (· < ·)) (hb:∀ x∈bs,0≤x∧x < (n:Int)):(bs++[Int.ofNat n]).Pairwise (· < ·):=by
 rw [List.pairwise_append]
 refine ⟨h,List.pairwise_singleton _ _,fun a ha b hb'=>?_⟩
 rw [aV.mp hb']
 exact (hb a ha).2
theorem zm (hb:∀ x∈bs,0≤x∧x < (n:Int)):∀ x∈bs,0≤x∧x < ((n+1:Nat):Int):=fun x h=>⟨(hb x h).1,Int.lt_trans (hb x h).2 (by lia)⟩
theorem OU (h:n≤60):n < 1000:=by lia
theorem P8 (h:n≤4):(n:Int) < 1000:=by lia
theorem r4 (h:n≤4):(n:Int)≤4:=Int.ofNat_le.mpr h
theorem Qt (h:n≤4):50+(n:Int)≤54:=by lia
theorem Cz {d:Int} (h0:0≤d) (h1:d < 5):(d.toNat:Int)≤4:=by lia
theorem z7 {m:Nat} (e:n=m) (h:(m:Int)≤4):n≤4:=by lia
theorem QB {m:Nat} (h:(m:Int)≤4):69+2*(m:Int)≤80:=by lia
theorem Pg (h:n < 4):(50:Int)+n < 10000:=by lia
theorem IC {rows:List bj} (h:rows.length≤4):Int.toNat ((rows.map bj.t).length:Int)≤4:=by rw [ba];exact h
theorem vR {cs:List Int} (a:Aw cs):cs.length+1≤60:=by have:=a.len;lia
theorem Ot {k:Int} (h:0≤k∧k < n):k.toNat < n:=by lia
noncomputable def rz (N:Nat) (l:List Nat) (bs:List Int) (p:jD):Prop:=∃ done,List.range N=done++l∧bs.Pairwise (· < ·)∧(∀ x∈bs,0≤x∧x < done.length)∧bs.length≤done.length∧p.ok (50+done.length)
theorem rz.at {N i:Nat} {l:List Nat} (h:rz N (i::l) bs p):i < N∧bs.Pairwise (· < ·)∧(∀ x∈bs,0≤x∧x < i)∧bs.length≤i∧p.ok (50+i)∧List.range N=List.range i++i::l:=by
 obtain ⟨done,e,h1,h2,h3,h4⟩:=h
 have hi:=yq e
 have hl:=uV e.symm
 rw [ei] at hl
 have ht:=aw (List.take done.length) e
 rw [List.take_append_of_le_length (Nat.le_refl _),List.take_length,List.take_range,Nat.min_eq_left (hl▸Nat.le_add_right _ _)] at ht
 rw [hi]
 exact ⟨hl▸Nat.lt_add_of_pos_right (Nat.succ_pos _),h1,h2,h3,h4,by rw [ht,← hi];exact e⟩
theorem rz.pen {N i:Nat} {l:List Nat} (h:rz N (i::l) bs p):p.ok (50+i)∧(N≤4→(50:Int)+i < 10000):=⟨h.at.2.2.2.2.1,fun n=>Pg (gB h.at.1 n)⟩
theorem rz.step {N i:Nat} {l:List Nat} {p':jD} (h:rz N (i::l) bs p) (hp:p'.ok (50+i+1)):rz N l (bs++[Int.ofNat i]) p'∧rz N l bs p':=by
 have e:List.range N=List.range (i+1)++l:=by rw [h.at.2.2.2.2.2,List.range_succ,List.append_assoc];rfl
 have hp:p'.ok (50+((List.range (i+1)).length:Int)):=by rw [ei];exact (Int.add_assoc 50 (i:Int) 1)▸hp
 refine ⟨⟨List.range (i+1),e,Fi h.at.2.1 h.at.2.2.1,?_,?_,hp⟩,List.range (i+1),e,h.at.2.1,?_,?_,hp⟩
 ·rw [ei];exact mG (zm h.at.2.2.1) ⟨Int.natCast_nonneg _,Int.ofNat_lt.mpr (Nat.lt_succ_self _)⟩
 ·rw [ei,jL];exact gR h.at.2.2.2.1
 ·rw [ei];exact zm h.at.2.2.1
 ·rw [ei];exact Nat.le_succ_of_le h.at.2.2.2.1
theorem rz.fin {N:Nat} (h:rz N [] bs p):bs.Pairwise (· < ·)∧(∀ x∈bs,0≤x∧x < N)∧bs.length≤N∧p.ok (50+N):=by
 obtain ⟨done,e,h⟩:=h
 rw [cr] at e
 rw [← e,ei] at h;exact h
noncomputable def xI (l:List Int) (bs:List (Int×Int)) (p:jD):Prop:=keys bs++l=[32,97,98,99,100,101]∧(∀ b∈bs,gl b.2)∧p.ok (54+bs.length)
theorem xI.lt {i:Int} {l:List Int} {bs:List (Int×Int)} (h:xI (i::l) bs p):54+(bs.length:Int) < 10000:=P1 (by rw [← bG];exact uV h.1) (Int.le_refl 6) (by decide)
theorem xI.step {i d:Int} {l:List Int} {bs:List (Int×Int)} {p':jD} (h:xI (i::l) bs p) (d0:0≤d) (d1:d < 12) (hp:p'.ok (54+bs.length+1)):xI l (bs++[(i,d)]) p':=
 ⟨by rw [keys,dJ,List.append_assoc];exact h.1,mG h.2.1 ⟨d0,d1⟩,hp.snoc⟩
theorem xI.fin {bs:List (Int×Int)} (h:xI [] bs p):(keys bs).Nodup∧bs.length=6∧(∀ b∈bs,gl b.2)∧p.ok 60:=by
 obtain ⟨h1,h2,h3⟩:=h
 rw [cr] at h1
 have e:bs.length=6:=by rw [← bG,h1];rfl
 rw [e] at h3
 exact ⟨by rw [h1];decide,e,h2,h3⟩
noncomputable def pJ {β:Type} (P:β→Prop) (c:Int) (K:Nat) (l:List Nat) (bs:List β) (p:jD):Prop:=bs.length+l.length=K∧(∀ b∈bs,P b)∧p.ok (c+2*bs.length)
section
variable {β:Type} {P:β→Prop} {c:Int} {K i:Nat} {l:List Nat} {bs:List β} {p p':jD}
theorem pJ.start (e:l.length=K) (h:p.ok c):pJ P c K l [] p:=⟨by rw [e];exact Nat.zero_add _,(fun _ h=>nomatch h),h.le (Int.le_of_eq (Int.add_zero c).symm)⟩
theorem pJ.lt (h:pJ P c K (i::l) bs p) (hK:(K:Int)≤4) (hc:c+2*4 < 9000):c+2*bs.length < 10000∧c+2*bs.length+1 < 10000:=Qa h.1 hK hc
theorem pJ.step {b:β} (h:pJ P c K (i::l) bs p) (hb:P b) (hp:p'.ok (c+2*bs.length+1+1)):pJ P c K l (bs++[b]) p':=⟨Ed h.1,mG h.2.1 hb,hp.snoc2⟩
theorem pJ.fin (h:pJ P c K [] bs p):bs.length=K∧(∀ b∈bs,P b)∧p.ok (c+2*K):=⟨h.1,h.2.1,(show bs.length=K from h.1)▸h.2.2⟩
end
noncomputable def yE (l bs:List Int) (p:jD):Prop:=∃ done:List Int,done++l=[97,98,99,100,101,500]∧bs.Sublist done∧p.ok (90+done.length)
theorem yE.step {i:Int} {l:List Int} (h:yE (i::l) bs p):∃ c,(p.ok c∧c < 10000)∧∀ p',p'.ok (c+1)→yE l (bs++[i]) p'∧yE l bs p':=by
 obtain ⟨done,e,h1,h2⟩:=h
 have e':(done++[i])++l=[97,98,99,100,101,500]:=by rw [← e,List.append_assoc];rfl
 exact ⟨_,⟨h2,P1 (k:=6) (uV e) (by decide) (by decide)⟩,fun p' hp=>⟨⟨_,e',h1.append (List.Sublist.refl _),hp.snoc⟩,_,e',h1.trans (List.sublist_append_left _ _),hp.snoc⟩⟩
theorem yE.fin (h:yE [] bs p):bs.Sublist [97,98,99,100,101,500]:=by
 obtain ⟨done,e,h1,_⟩:=h
 rw [cr] at e
 rw [← e];exact h1
theorem Fo.ind (h:∀ f:Fo,P f.rows f.named f.codes f.cls f.kern f.pairs f.pos) (a:List bj) (b:List Int) (c d:List (Int×Int)) (e g:List ((Int×Int)×Int)) (i:Bool):P a b c d e g i:=h ⟨a,b,c,d,e,g,i⟩
theorem km [DecidableEq κ] (K:KE κ) (vf:ν→T) {l:List (κ×ν)} (e:xs=l.map fun p=>.tup [K.t p.1,vf p.2]) (nd:(keys l).Nodup) (hl:l.length≤SZ):bi .dict (.list xs)=some (D K vf l):=by
 rw [e,iU K vf l hl,iH nd]
theorem A4 (mk:α→T) (f:α→T) (env:σ→Env) {ok:Env→Prop} (hok:∀ s,ok (env s)) (xs:List α) {ys:List T} (e:xs.map f=ys)
  (step:∀ x∈xs,∀ s,∀ K:T→Env→Prop,(∀ s',K (f x) (env s'))→eI g (mk x) (env s) fun ρ=>elt C ρ K)
  (s:σ) (fin:∀ s,Q ys (env s)):cb ok g aI elt C (xs.map mk) (env s) [] Q:=bc mk f env hok xs step s (e▸fin)
noncomputable abbrev LR (ks:List Int) (p:jD) (rows:List bj) (a3 a4 a5 a6 a7:Slot):Env:=
 LE (.val (.list (ks.map .int))) (.own false p.t) (.val (.list (rows.map bj.t))) a3 a4 a5 a6 a7 .unb .unb .unb .unb .unb .unb .unb .unb .unb .unb .unb
noncomputable abbrev LF (ks:List Int) (p:jD) (f:Fo) (u:T) (a13 a14 a15 a16 a17 a18:Slot):Env:=
 LE (.val (.list (ks.map .int))) (.own false p.t) (.val (.list (f.rows.map bj.t))) (.val (.list (f.named.map .int))) (.val (DI f.codes)) (.val (DI f.cls)) (.val (D kP T.int f.kern)) (.val (DA f.pairs)) (.val f.gsub) (.val f.gpos) (.val zd) (.val f.t) (.val u) a13 a14 a15 a16 a17 a18
noncomputable abbrev LG (ks:List Int) (p:jD) (f:Fo) (u:T) (cs base S:List Int) (a18:Slot):Env:=
 LF ks p f u (.val (.list (cs.map .int))) (.val (.set base)) (.val (.list (S.map .int))) (.val (DI (bJ S))) (.val (f.cut cs S)) a18
noncomputable def QL:T→Option T→Prop:=fun t r=>t=.bool true∧r=none
theorem OF (ks:List Int):CN 20 78 [.list (ks.map .int)] none QL:=by
 refine ao (fd:=EX) rfl rfl rfl ?_
 refine mi (List.map_take (f:=T.int) (l:=ks) (i:=40)).symm ?_
 refine bc T.int T.int (fun s:Slot=>(100,s)::LE (.val (.list (ks.map .int))) .unb .unb .unb .unb .unb .unb .unb .unb .unb .unb .unb .unb .unb .unb .unb .unb .unb .unb) (fun _=>trivial) (ks.take 40) (fun k hk s K kk=>?_) .unb fun s=>?_
 ·exact kk _
 refine ag (ag ?_)
 refine K6 ⟨ks.take 40,0,0⟩ ⟨Int.le_refl _,Int.le_refl _⟩ fun rows p1 rl rok hp1=>?_
 refine ab rfl (ag ?_)
 refine ab (fq (d:=((rows.map bj.t).length:Int)) (Int.natCast_nonneg _) (by rw [ba];exact P8 rl)) ?_
 refine eO (ok:=fun _=>True) dZ T.int (fun s:Slot×jD=>(56,s.1)::LR ks s.2 rows .unb .unb .unb .unb .unb) (fun l bs s=>rz (Int.toNat ((rows.map bj.t).length:Int)) l bs s.2) (fun _=>trivial) (fun i l bs s hh K k1 k2=>?_) (List.range _) (.unb,p1) ⟨[],rfl,.nil,(fun _ h=>nomatch h),Nat.le_refl _,hp1⟩ fun named s1 h1=>?_
 ·refine ag (dE 2 (by decide) s.2 _ hh.pen.1 (hh.pen.2 (IC rl)) fun d p' d0 d1 hp'=>ab rfl ?_)
  exact fX (fun q=>k1 (Int.ofNat i) (.val (dZ i),p') (hh.step hp').1) fun q=>k2 (.val (dZ i),p') (hh.step hp').2
 have f1:=h1.fin
 rw [ba,Int.toNat_natCast] at f1
 refine ag ?_
 refine eO (ok:=fun _=>True) T.int Px (fun s:Slot×jD=>(2,s.1)::LR ks s.2 rows (.val (.list (named.map .int))) .unb .unb .unb .unb) (fun l bs s=>xI l bs s.2) (fun _=>trivial) (fun i l bs s hh K k1 k2=>?_) [32,97,98,99,100,101] (.unb,s1.2) ⟨rfl,(fun _ h=>nomatch h),f1.2.2.2.le (Qt rl)⟩ fun codes s2 h2=>?_
 ·exact ag (dE 12 (by decide) s.2 _ hh.2.2 hh.lt fun d p' d0 d1 hp'=>ab rfl (k1 (i,d) (.val (.int i),p') (hh.step d0 d1 hp')))
 have f2:=h2.fin
 refine ab (km kI T.int rfl f2.1 (lT (er f2.2.1) (by decide))) (ag ?_)
 refine eO (ok:=fun _=>True) dZ Px (fun s:Slot×jD=>(105,s.1)::LR ks s.2 rows (.val (.list (named.map .int))) (.val (DI codes)) .unb .unb .unb) (fun l bs s=>pJ (fun _=>True) 60 4 l bs s.2) (fun _=>trivial) (fun i l bs s hh K k1 k2=>?_) (List.range 4) (.unb,s2.2) ⟨rfl,fun _ _=>trivial,f2.2.2.2⟩ fun cls s3 h3=>?_
 ·refine ag (dE 12 (by decide) s.2 _ hh.2.2 (hh.lt (Int.le_refl 4) (by decide)).1 fun d p' d0 d1 hp'=>ab rfl (ag ?_))
  exact dE 4 (by decide) p' _ hp' (hh.lt (Int.le_refl 4) (by decide)).2 fun e p'' e0 e1 hp''=>ab rfl (k1 (d,1+e) (.val (dZ i),p'') (hh.step trivial hp''))
 have f3:=h3.fin
 refine ab (iU kI T.int cls (lT (er f3.1) (by decide))) (ag ?_)
 have c3:=And.intro (hE cls) (f3.1▸kg cls)
 generalize ip cls=cl at c3
 refine ag (dE 5 (by decide) s3.2 _ f3.2.2 (by decide) fun d p5 d0 d1 hp5=>ab rfl ?_)
 have dn:=Cz d0 d1
 refine ab (fq d0 (Int.lt_trans d1 (by decide))) ?_
 refine eO (ok:=fun _=>True) dZ QA (fun s:Slot×jD=>(105,s.1)::LR ks s.2 rows (.val (.list (named.map .int))) (.val (DI codes)) (.val (DI cl)) .unb .unb) (fun l bs s=>pJ (fun b=>gl b.1.1∧gl b.1.2) 69 d.toNat l bs s.2) (fun _=>trivial) (fun i l bs s hh K k1 k2=>?_) (List.range d.toNat) (.unb,p5) (.start (ei ..) hp5) fun kern s4 h4=>?_
 ·refine ag (dE 12 (by decide) s.2 _ hh.2.2 (hh.lt dn (by decide)).1 fun a p' a0 a1 hp'=>ab rfl (ag ?_))
  exact dE 12 (by decide) p' _ hp' (hh.lt dn (by decide)).2 fun b p'' b0 b1 hp''=>ab rfl (k1 ((a,b),3+Int.ofNat i) (.val (dZ i),p'') (hh.step ⟨⟨a0,a1⟩,b0,b1⟩ hp''))
 have f4:=h4.fin
 refine ab (iU kP T.int kern (lT (z7 f4.1 dn) (by decide))) (ag ?_)
 have c4:=And.intro (hE kern) (aH (kg kern) (z7 f4.1 dn))
 generalize ip kern=ke at c4
 refine eO (ok:=fun _=>True) dZ Qp (fun s:Slot×jD=>(105,s.1)::LR ks s.2 rows (.val (.list (named.map .int))) (.val (DI codes)) (.val (DI cl)) (.val (D kP T.int ke)) .unb) (fun l bs s=>pJ (fun b=>gl b.1.1∧gl b.1.2) 80 3 l bs s.2) (fun _=>trivial) (fun i l bs s hh K k1 k2=>?_) (List.range 3) (.unb,s4.2) (.start rfl (f4.2.2.le (QB dn))) fun pairs s5 h5=>?_
 ·refine ag (dE 12 (by decide) s.2 _ hh.2.2 (hh.lt (by decide) (by decide)).1 fun a p' a0 a1 hp'=>ab rfl (ag ?_))
  refine dE 12 (by decide) p' _ hp' (hh.lt (by decide) (by decide)).2 fun b p'' b0 b1 hp''=>ab rfl ?_
  refine And.intro (by decide) (zH _ _ _ _ (And.intro rfl ?_))
  refine And.intro (by decide) (zH _ _ _ _ (And.intro rfl ?_))
  exact k1 ((a,b),Int.ofNat i+1) (.val (dZ i),p'') (hh.step ⟨⟨a0,a1⟩,b0,b1⟩ hp'')
 have f5:=h5.fin
 refine ab (iU kP fm pairs (lT (er f5.1) (by decide))) (ag ?_)
 have c5:=And.intro (hE pairs) (And.intro (aH (kg pairs) (f5.1▸(by decide):pairs.length≤4)) fun p hp=>f5.2.1 p (tC hp))
 generalize ip pairs=pa at c5
 refine E9 (n:=15) _ _ _ _ _ _ rows named rok _ (ag ?_)
 refine EA (n:=14) _ _ _ _ _ _ _ pa c5.2.2 s5.2 _ f5.2.2 (by decide) _ fun pos p8 hp8=>ag ?_
 have fok:(Fo.mk rows named codes cl ke pa pos).ok:=⟨rl,rok,⟨f1.1,f1.2.1⟩,aH f1.2.2.1 rl,f2.1,er f2.2.1,f2.2.2.1,c3.1,c3.2,c4.1,c4.2,c5.1,c5.2.1⟩
 clear h1 h2 h3 h4 h5 f1 f2 f3 f4 f5 c3 c4 c5 rl rok dn d0 d1 hp5
 revert rows named codes cl ke pa pos
 refine Fo.ind ?_
 intro f fok
 have fok:f.ok:=fok
 refine bc (ok:=fun _=>True) dZ (fun i=>T.int (100+Int.ofNat i)) (fun s:Slot=>(7,s)::LE (.val (.list (ks.map .int))) (.own false p8.t) (.val (.list (f.rows.map bj.t))) (.val (.list (f.named.map .int))) (.val (DI f.codes)) (.val (DI f.cls)) (.val (D kP T.int f.kern)) (.val (DA f.pairs)) (.val f.gsub) (.val f.gpos) .unb .unb .unb .unb .unb .unb .unb .unb .unb) (fun _=>trivial) (List.range 12) (fun i hi s K kk=>?_) .unb fun s=>?_
 ·exact kk _
 refine bc (ok:=fun _=>True) dZ dZ (fun s:Slot=>(7,s)::LE (.val (.list (ks.map .int))) (.own false p8.t) (.val (.list (f.rows.map bj.t))) (.val (.list (f.named.map .int))) (.val (DI f.codes)) (.val (DI f.cls)) (.val (D kP T.int f.kern)) (.val (DA f.pairs)) (.val f.gsub) (.val f.gpos) .unb .unb .unb .unb .unb .unb .unb .unb .unb) (fun _=>trivial) (List.range 12) (fun i hi s K kk=>?_) .unb fun s=>?_
 ·exact kk _
 refine And.intro (by decide) (tS _ _ _ _ _ (And.intro rfl (ag ?_)))
 refine And.intro (by decide) (tW f.codes fok.cn (eD fok.cl (by decide)) (And.intro rfl ?_) [] (.inl rfl))
 refine And.intro (by decide) (u7 _ (And.intro rfl ?_))
 refine And.intro (by decide) (u7 _ (And.intro rfl ?_))
 refine And.intro (by decide) (Gx _ _ _ (And.intro rfl ?_))
 refine And.intro (by decide) (DQ _ _ _ _ _ _ (And.intro rfl (ag ?_)))
 obtain ⟨u,pu,tu⟩:=Cs (n:=12) f fok
 refine tu.go (ag ?_)
 have cn:=fok.cn
 have kn:=fok.kn
 have ken:=fok.ke
 have pn:=fok.pn
 refine eO (ok:=fun _=>True) T.int T.int (fun s:Slot×jD=>(2,s.1)::LF ks s.2 f u .unb .unb .unb .unb .unb .unb)
  (fun l bs s=>yE l bs s.2) (fun _=>trivial) (fun i l bs s hh K k1 k2=>?_) [97,98,99,100,101,500] (.unb,p8) ⟨[],rfl,.slnil,hp8.le (by decide)⟩ fun cs s9 h9=>?_
 ·obtain ⟨c,hc,st⟩:=hh.step
  refine ag (dE 3 (by decide) s.2 c hc.1 hc.2 fun d p' d0 d1 hp'=>ab rfl ?_)
  exact fX (fun q=>k1 i (.val (.int i),p') (st p' hp').1) fun q=>k2 (.val (.int i),p') (st p' hp').2
 have ask:=L6 h9.fin
 obtain ⟨_,p9⟩:=s9
 refine ag ?_
 refine ab (add_list (xs:=cs.map T.int) (ys:=[.int 32]) (by rw [ba];exact aH (vR ask) (by decide))) ?_
 refine mi (show cs.map T.int++[.int 32]=(cs++[32]).map T.int by rw [dJ];rfl) ?_
 refine bc (ok:=fun _=>True) T.int (fun c=>T.int (fS f.codes c)) (fun s:Slot=>(2,s)::LF ks p9 f u (.val (.list (cs.map .int))) .unb .unb .unb .unb .unb) (fun _=>trivial) (cs++[32]) (fun c hc s K kk=>?_) .unb fun s=>?_
 ·refine And.intro rfl (ab (lr kI T.int f.codes c (.int 0)) ?_)
  have e:((b8 f.codes c).map T.int).getD (.int 0)=.int (fS f.codes c):=by unfold fS;cases b8 f.codes c<;>rfl
  rw [e];exact kk _
 have hlen:(cs++[32]).length≤60:=by rw [jL];exact vR ask
 refine ab (add_list (xs:=[T.int 0]) (ys:=(cs++[32]).map fun c=>T.int (fS f.codes c)) (by rw [ba,Nat.add_comm];exact aH (gR hlen) (by decide))) ?_
 refine ab (a:=T.set (canon (0::(cs++[32]).map (fS f.codes)))) ?_ ?_
 ·have:=q0 (l:=0::(cs++[32]).map (fS f.codes)) (by rw [eF,ba];exact aH (gR hlen) (by decide))
  rw [c6,cu] at this
  exact this
 generalize hbase:canon (0::(cs++[32]).map (fS f.codes))=base
 refine ag (ag ?_)
 have bmem:∀ x,x∈base↔x=0∨∃ w∈(32::cs),x=fS f.cm w:=fun x=>by
  rw [← hbase,aN,aU,bo]
  refine or_congr Iff.rfl ⟨fun ⟨c,hc,e⟩=>⟨c,?_,?_⟩,fun ⟨c,hc,e⟩=>⟨c,?_,?_⟩⟩
  ·rcases cH.mp hc with hc | hc
   ·exact .tail _ hc
   ·rw [aV.mp hc];exact .head _
  ·rw [qo cn];exact e.symm
  ·rcases aU.mp hc with rfl | hc
   ·exact dq _ (.head _)
   ·exact eY _ hc
  ·rw [e,qo cn]
 have bgl:∀ x∈base,gl x:=fun x hx=>by
  rcases (bmem x).mp hx with rfl | ⟨w,_,rfl⟩
  ·exact ⟨by decide,by decide⟩
  ·unfold fS
   induction e:b8 f.cm w with
   | none=>exact ⟨by decide,by decide⟩
   | some v=>exact I1 fok _ (cW e)
 have binc:base.Pairwise (· < ·):=by rw [← hbase];exact aJ _
 have hat:∀ k∈f.named,0≤k∧f.rows[k.toNat]? = some (eZ f.rows k)∧eZ f.rows k∈f.rows:=fun k hk=>by
  have:=fok.named.2 k hk
  have hlt:=Ot this
  have e:f.rows[k.toNat]? = some f.rows[k.toNat]:=cj hlt
  have e2:eZ f.rows k=f.rows[k.toNat]:=by show f.rows.getD _ _=_;rw [g9,e];rfl
  rw [e2]
  exact ⟨this.1,e,List.getElem_mem _⟩
 refine A4 (ok:=fun _=>True) T.int (fun k=>(eZ f.rows k).t) (fun s:Slot=>(56,s)::LF ks p9 f u (.val (.list (cs.map .int))) (.val (.set base)) .unb .unb .unb .unb) (fun _=>trivial) f.named (ys:=f.R.map bj.t) (by rw [cu];rfl) (fun k hk s K kk=>?_) .unb fun s=>?_
 ·obtain ⟨h0,hx,_⟩:=hat k hk
  exact ag (ab (iy (f:=bj.t) h0 hx) (kk _))
 refine CW base binc bgl f.R (fun r hr=>by
  obtain ⟨k,hk,rfl⟩:=bo.mp hr
  exact fok.rows _ (hat k hk).2.2) fun S hS=>?_
 have theS:MJ f cs S:=⟨fun gs S' hb hk=>hk.eq hS fun x=>(hb x).trans (bmem x).symm,base,bmem,hS⟩
 have nd:=hS.nd
 have sl:=hS.len
 refine ag ?_
 refine ag (F3 (n:=12) f fok cs ask theS ?_)
 refine ab (uU (d:=1) (.list 0 _ (PL.ints S)) (by decide)) ?_
 refine bc (ok:=fun _=>True) T.int (fun g=>T.tup [.int g,.int (cL S g)]) (fun s:Slot=>(7,s)::LF ks p9 f u (.val (.list (cs.map .int))) (.val (.set base)) (.val (.list (S.map .int))) .unb .unb .unb) (fun _=>trivial) S (fun g hg s K kk=>?_) .unb fun s=>?_
 ·exact And.intro rfl (ab (xj hg) (kk _))
 have nlen:(bJ S).length≤12:=by rw [← bG,gv];exact sl
 refine ab (km kI T.int (l:=bJ S) (by unfold bJ;rw [cu];rfl) (by rw [gv];exact nd) (lT nlen (by decide))) (ag ?_)
 refine ag (Da (n:=9) f fok cs ask theS (ag ?_))
 refine ab (add_list (xs:=cs.map T.int) (ys:=[.int 32]) (by rw [ba];exact aH (vR ask) (by decide))) ?_
 refine mi (show cs.map T.int++[.int 32]=(cs++[32]).map T.int by rw [dJ];rfl) ?_
 have inS':∀ c∈cs++[32],fS f.codes c∈S:=fun c hc=>hS.lfp.sub _ ((bmem _).mpr (.inr ⟨c,(cH.mp hc).elim (.tail _) (fun h=>by rw [aV.mp h];exact .head _),(qo cn c).symm⟩))
 refine bg (ok:=fun _=>True) T.int (fun c=>fS f.codes c != 0) (fun c=>T.tup [.int c,.int (cL S (fS f.codes c))]) (fun s:Slot=>(2,s)::LG ks p9 f u cs base S .unb) (fun c=>.val (.int c)) (fun _=>trivial) (cs++[32]) (fun c hc s K kk=>?_) (fun c hc hp K kk=>?_) .unb fun s=>?_
 ·refine And.intro rfl (ab (lr kI T.int f.codes c (.int 0)) ?_)
  have e:((b8 f.codes c).map T.int).getD (.int 0)=.int (fS f.codes c):=by unfold fS;cases b8 f.codes c<;>rfl
  rw [e]
  induction q:fS f.codes c != 0 with
  | false=>rw [q] at kk;exact fQ q kk
  | true=>rw [q] at kk;exact ff q kk
 ·have hv:b8 f.codes c=some (fS f.codes c):=by
   unfold fS at hp ⊢
   induction e:b8 f.codes c with
   | none=>rw [e] at hp;exact bt hp
   | some v=>rfl
  refine ag (ag (ab (bE kI T.int hv) ?_))
  exact ab (bE kI T.int (dS nd (inS' c hc))) (kk _)
 have hcsn:(cs++[32]).Nodup:=by
  have:=ask.nd
  rw [cP] at this
  rw [cD]
  exact ⟨this.2,by simp,fun a ha b hb e=>this.1 (by rw [aV] at hb;rw [← hb,← e];exact ha)⟩
 have nk:(keys (I8 ((cs++[32]).filter fun c=>fS f.codes c != 0) fun c=>cL S (fS f.codes c))).Nodup:=by rw [iE];exact hcsn.sublist fM
 refine ab (km kI T.int (l:=I8 ((cs++[32]).filter fun c=>fS f.codes c != 0) fun c=>cL S (fS f.codes c)) (by unfold I8;rw [cu];rfl) nk (by rw [← bG,iE];exact lT (aH (gL _ _) hlen) (by decide))) ?_
 refine ab (nS kI (by unfold dA;rw [iE];exact (ec (aJ _)).sublist fM) nk fun k=>?_) ?_
 ·unfold dA
  rw [zx,zx]
  have e2:k∈((canon (32::cs)).filter fun c=>fS f.cm c != 0)↔k∈((cs++[32]).filter fun c=>fS f.codes c != 0):=by
   rw [b7,b7,aN,qo cn]
   simp [or_comm]
  by_cases q:k∈((canon (32::cs)).filter fun c=>fS f.cm c != 0)
  ·rw [au q,au (e2.mp q),qo cn]
  ·rw [av q,av fun c=>q (e2.mpr c)]
 refine (xg (n:=18) _ _ _ _ _).go ?_
 refine bc (ok:=fun _=>True) T.int (fun g=>T.int (100+g)) (fun s:Slot=>(7,s)::LG ks p9 f u cs base S .unb) (fun _=>trivial) S (fun g hg s K kk=>?_) .unb fun s=>?_
 ·exact kk _
 have pm:PL 3 (.tup [.int 1000,.int 700,.int (-200),.tup (Iu S),.tup (S.map .int)]):=bx (aB (.int 2 _) (aB (.int 2 _) (aB (.int 2 _) (aB (bx (ig fun g=>.int 1 _)) (aB (bx (ig fun g=>.int 1 _)) b4)))))
 refine ab rfl (ab (uU pm (by decide)) ?_)
 refine gj kI T.int ?_
 refine bg (ok:=fun _=>True) T.int (fun g=>decide (g∈S)) (fun g=>T.tup [.int (cL S g),.int ((b8 f.cls g).getD 0)]) (fun s:Slot=>(7,s)::LG ks p9 f u cs base S .unb) (fun c=>.val (.int c)) (fun _=>trivial) (keys f.cls) (fun g hg s K kk=>?_) (fun g hg hp K kk=>?_) .unb fun s=>?_
 ·refine ab (jN kI T.int (bJ S) g) ?_
  rw [c9]
  induction q:decide (g∈S) with
  | false=>rw [q] at kk;exact kk
  | true=>rw [q] at kk;exact kk
 ·obtain ⟨v,hv⟩:=cA hg
  rw [hv] at kk
  refine ag (ab (bE kI T.int (dS nd (bH hp))) ?_)
  exact ag (ab (bE kI T.int hv) (kk _))
 refine ab (km kI T.int (l:=f8 f.cls S (keys f.cls)) (by unfold f8;rw [cu];rfl) (gU kn) (by unfold f8;rw [ba];exact lT (aH (gL _ _) (aH (er (bG _)) fok.kl)) (by decide))) ?_
 refine ab (nS kI (gU (ec (aJ _))) (gU kn) fun k=>mr (((gQ kn).filter _).map _) (gU (ec (aJ _))) k) ?_
 refine gj kP T.int ?_
 refine bg (ok:=fun _=>True) kP.t (sn S) (fun p=>T.tup [.tup [.int (cL S p.1),.int (cL S p.2)],.int ((b8 f.kern p).getD 0)]) (fun s:Slot×Slot=>(37,s.1)::(58,s.2)::LG ks p9 f u cs base S .unb) (fun p=>(.val (.int p.1),.val (.int p.2))) (fun _=>trivial) (keys f.kern) (fun p hp s K kk=>?_) (fun p hp h2 K kk=>?_) (.unb,.unb) fun s=>?_
 ·refine ab (jN kI T.int (bJ S) p.1) ?_
  rw [c9]
  induction q:f9 S p.1 with
  | false=>unfold sn at kk;rw [q] at kk;exact fQ q kk
  | true=>
   refine ff q (ab (jN kI T.int (bJ S) p.2) ?_)
   rw [c9]
   induction q2:f9 S p.2 with
   | false=>unfold sn at kk;rw [q,q2] at kk;exact fQ q2 kk
   | true=>unfold sn at kk;rw [q,q2] at kk;exact ff q2 kk
 ·obtain ⟨v,hv⟩:=cA hp
  rw [hv] at kk
  unfold sn at h2
  rw [bC] at h2
  refine ag (ab (bE kI T.int (dS nd (dD h2.1))) ?_)
  refine ag (ab (bE kI T.int (dS nd (dD h2.2))) ?_)
  exact ag (ab (bE kP T.int hv) (kk _))
 have lkp:=nU f.kern S (keys f.kern)
 rw [bG] at lkp
 refine ab (km kP T.int (l:=bX f.kern S (keys f.kern)) (by unfold bX;rw [cu];rfl) (eS ken) (lT (aH lkp fok.kel) (by decide))) ?_
 have ncan:(bh (keys f.kern)).Nodup:=(bI _).nodup_iff.mpr ken
 refine ab (nS kP (eS ncan) (eS ken) fun k=>mr (((bI _).filter _).map _) (eS ncan) k) ?_
 refine fQ rfl ?_
 refine fQ (b:=!(bZ (f.gsub' S)==bZ f.gsub)) (by rw [(nM f S).1,(nM f S).2];simp) ?_
 refine fQ (b:=!(bZ (f.gpos' S)==bZ f.gpos)) (by rw [(nK f S).1,(nK f S).2];simp) ?_
 refine GF (fun q rest=>?_) ?_
 ·refine ag ?_
  have q':f.rows.isEmpty=false:=by rw [← (nM f S).1];simpa using q
  have eg:f.gsub' S=bl jz (.str 114) ((f.named.filter (f9 (aP (ch S) f.rows))).map (cL (aP (ch S) f.rows))) ((aP (ch S) f.rows).map (nT f.rows bj.kind (ch S))):=av (by rw [q'];exact bO)
  have hh:∀ Q:T→Option T→Prop,Q (.bool true) none→CN 19 77 [f.gsub' S,.list (f.rows.map bj.t),.list (f.named.map .int),DI (bJ S)] none Q:=fun Q h=>by
   rw [eg];exact uL (n:=14) f.rows fok.rows fok.rl f.named S nd h
  exact hh _ rest
 have fin:∀ s118:Slot,ai (aR (gF .Eq (cv mt (ae 69) 5 ak) (.v 116))) aj (CN 19) (LG ks p9 f u cs base S s118) (fun fl ρ=>nu EX.ref ρ fun r'=>QL (AR fl) r'):=fun s118=>by
  refine tu.go ?_
  exact ab (wn pu (by decide)) (show QL _ _ from ⟨rfl,rfl⟩)
 refine fQ rfl ?_
 refine fX (fun q=>?_) fun q=>?_
 case refine_2=>exact fin .unb
 have q':f.pos=true:=by
  have:=(nK f S).1
  induction e:f.pos with
  | true=>rfl
  | false=>rw [e] at this;have q:(!bZ f.gpos)=true:=q;rw [this] at q;exact bt q
 refine gj kP fm ?_
 refine bg (ok:=fun _=>True) kP.t (sn S) (fun p=>T.tup [.tup [.int (cL S p.1),.int (cL S p.2)],fm ((b8 f.pairs p).getD 0)]) (fun s:Slot×Slot=>(37,s.1)::(58,s.2)::LG ks p9 f u cs base S .unb) (fun p=>(.val (.int p.1),.val (.int p.2))) (fun _=>trivial) (keys f.pairs) (fun p hp s K kk=>?_) (fun p hp h2 K kk=>?_) (.unb,.unb) fun s=>?_
 ·refine ab (jN kI T.int (bJ S) p.1) ?_
  rw [c9]
  induction q:f9 S p.1 with
  | false=>unfold sn at kk;rw [q] at kk;exact fQ q kk
  | true=>
   refine ff q (ab (jN kI T.int (bJ S) p.2) ?_)
   rw [c9]
   induction q2:f9 S p.2 with
   | false=>unfold sn at kk;rw [q,q2] at kk;exact fQ q2 kk
   | true=>unfold sn at kk;rw [q,q2] at kk;exact ff q2 kk
 ·obtain ⟨v,hv⟩:=cA hp
  rw [hv] at kk
  unfold sn at h2
  rw [bC] at h2
  refine ag (ab (bE kI T.int (dS nd (dD h2.1))) ?_)
  refine ag (ab (bE kI T.int (dS nd (dD h2.2))) ?_)
  exact ag (ab (bE kP fm hv) (kk _))
 have lpp:=nU f.pairs S (keys f.pairs)
 rw [bG] at lpp
 refine ab (km kP fm (l:=bX f.pairs S (keys f.pairs)) (by unfold bX;rw [cu];rfl) (eS pn) (lT (aH lpp fok.pl) (by decide))) ?_
 have ncp:(bh (keys f.pairs)).Nodup:=(bI _).nodup_iff.mpr pn
 have pperm:(f.kp S).Perm (bX f.pairs S (keys f.pairs)):=((bI _).filter _).map _
 have pnd:(keys (f.kp S)).Nodup:=eS ncp
 have plen:(f.kp S).length≤4:=by rw [pperm.length_eq];exact aH lpp fok.pl
 have hU:k5 (f.kp S)=k5 (bX f.pairs S (keys f.pairs)):=ya pperm pnd
 refine ag ?_
 have eg:f.gpos' S=bl jz (.str 32) ((([0]:List Int).filter (f9 (aP (jV f S) [()]))).map (cL (aP (jV f S) [()]))) ((aP (jV f S) [()]).map (nT [()] (fun _=>33) (jV f S))):=au q'
 have ea:EN (f.gpos' S) 44=some (.list ((aP (jV f S) [()]).map (nT [()] (fun _=>33) (jV f S)))):=by rw [eg];rfl
 refine ab ea ?_
 have hpe:=mw pperm
 refine (Bool.eq_false_or_eq_true (f.kp S).isEmpty).elim (fun hke=>?_) fun hke=>?_
 ·refine mi (ys:=[]) (by rw [Jc,hke];rfl) (cJ ?_)
  refine fQ (b:=!(em kP fm (bX f.pairs S (keys f.pairs))).isEmpty) (by unfold em;rw [List.isEmpty_map,hpe.symm.trans hke];rfl) ?_
  exact fin _
 ·have eo:nT [()] (fun _=>33) (jV f S) 0=be 33 (.list [ed (DA (f.kp S))]):=by
   show be 33 (.list (jV f S ()))=_
   unfold jV;rw [hke];rfl
  refine mi (ys:=[be 33 (.list [ed (DA (f.kp S))])]) (by rw [Jc,hke];exact aw (·::[]) eo) (dU ?_)
  refine (lz (n:=15) (f.kp S) pnd plen).go ?_
  refine ag (cJ ?_)
  refine ff (b:=!(em kP fm (bX f.pairs S (keys f.pairs))).isEmpty) (by unfold em;rw [List.isEmpty_map,hpe.symm.trans hke];rfl) ?_
  refine And.intro (by decide) (zt _ (And.intro rfl ?_))
  refine And.intro (by decide) (iG _ _ (And.intro rfl ?_))
  refine (lz (n:=15) (bX f.pairs S (keys f.pairs)) (eS pn) (aH lpp fok.pl)).go ?_
  refine ab (a:=false) (by rw [hU];exact uU (d:=10) (.list 9 _ (aB (wj _) b4)) (by decide)) ?_
  exact fin _
end
end Nz.Nc
namespace Nz
open PySem PyProof.Rows PySem.W
section
theorem By (w:World) (s:Shared):segRun treeTable pp w 11 (some (.ref 6)) 1 1 s (blockOf (behindTheImports pp) CH cc ⟨0,0,0,0⟩ [topFrame ⟨0,0,0,0⟩])=some (.next,s,cc,⟨0,0,0,0⟩):=by kernel_rfl
theorem HU:opening pp=plainProg pp.main.scope.names:=by kernel_rfl
theorem FI (s:Shared):fenceModules? pp s=some s:=by kernel_rfl
theorem HX (w:World):((boot_heap w.params).isNs mainGlobals&&((Array.mk []:Array GenState).size==0),(boot_heap w.params).objs.size,(boot_heap w.params).nsMap mainGlobals "__annotations__")=(true,11,some (.ref 6)):=by kernel_rfl
theorem Iz {p q:Program} {loose:List PySem.Str} {Xt:Shared→Bool} {Yf:Shared→Prop} {N:Nat} {H'0:Params→Heap} {gs0:Array GenState} {d'0:Drawn} {k'0:Nat} {m'0:Nat} {ann:Option Value} {M:Nat}
  (open_:∀ w:World,(fencedOpening treeTable p w N).map (fun s=>(s.heap,s.gens,s.drawn,s.toks))=some (H'0 w.params,gs0,d'0,k'0))
  (size:∀ w:World,((H'0 w.params).isNs mainGlobals&&gs0.size==0,(H'0 w.params).objs.size,(H'0 w.params).nsMap mainGlobals "__annotations__")=(true,m'0,ann)) (le:Nat.ble M N=true)
  (run:∀ (w:World) (os:OsState),∃ s₁,topRun treeTable p w m'0 ann M ⟨H'0 w.params,gs0,d'0,k'0,os⟩ (topStub p)=some s₁∧
   (staticsOk (importedModules p.main.body) (H'0 w.params) s₁.heap&&namesBound p s₁.heap&&gensDone s₁&&laidKept (H'0 w.params) s₁.heap)=true∧openSeen q loose (importedModules p.main.body) Xt true s₁=openGood q loose∧Yf s₁) :
  LeftO p q loose Xt Yf (fun _=>True) N:=fun w=>by
 obtain ⟨⟨h,gs,d,k,os⟩,e,e'⟩:=oE.mp (open_ w)
 obtain ⟨rfl,rfl,rfl,rfl⟩:h=H'0 w.params∧gs=gs0∧d=d'0∧k=k'0:=by simpa using e'
 obtain ⟨z1,z2,z3⟩:_∧_∧_:=by simpa only [Prod.mk.injEq] using size w
 obtain ⟨s₁,r,l1,l2,l3⟩:=run w os
 have r:=topRun_mono (N - M) _ _ _ _ r
 rw [Nat.add_sub_cancel' (Nat.le_of_ble_eq_true le)] at r
 have t:topFrom treeTable p w N ⟨H'0 w.params,gs,d,k,os⟩=some s₁:=by
  unfold topFrom
  dsimp only
  rw [z1,z2,z3,r]
  show (match staticsOk (importedModules p.main.body) (H'0 w.params) s₁.heap&&namesBound p s₁.heap&&gensDone s₁&&laidKept (H'0 w.params) s₁.heap with | true=>_ | false=>_)=_
  rw [l1]
 unfold openEnds
 rw [e]
 show (topFrom treeTable p w N _).map _=_
 rw [t]
 exact aw some (Prod.ext l2 (eq_true l3))
theorem Fh {h:Heap} {i:Nat} {o:Obj} (e:h.objs[i]? = some o) (l:jX o=true):h.get? i=some o:=by
 unfold Heap.get?
 rw [e]
 obtain ⟨c,d,dat,sl⟩:=o
 induction dat<;>first | rfl | exact bt l
theorem IA {n toks j m:Nat} {g:Nat→Obj} {w:World} {os:OsState} {i:Nat} (h15:15≤i) (hn:n≤4000) (h:i < n) (l:jX (g i)=true):(SP n toks j m g w os).abs.heap.get? i=some (g i):=by
 refine Fh ?_ l
 have e:(SP n toks j m g w os).abs.heap.objs[i]? = ((List.range n).map fun i=>((Gc n (FN j m g w.params) 12 1 0).get i).getD default)[i]?:=by
  show (absHeap (Gc n (FN j m g w.params) 12 1 0) n {}).objs[i]? = _
  unfold absHeap BT.list
  simp
 rw [e,dO,List.getElem?_range h,Option.map_some,zK hn h,Aq _ h15];rfl
theorem GD:LeftO pp qL qJ Pp (fun s=>yn s.heap) (fun _=>True) 20000:=
 Iz (M:=12+(1+10312)) (boot_open HU (by decide) FI) HX (by decide) fun w os=>by
  obtain ⟨g,hr,⟨l1,l2,l3⟩,ho,hf,hb⟩:=Ni w os fun _=>default
  refine ⟨(SP 1384 2102 32 108 g w os).abs,go_top (Hc w os) (piece_block (By w _) ?_),l1,l2,⟨_,g,am,l3,fun i h1 h2 l=>IA h1 (by decide) h2 l,hf,hb⟩⟩
  rw [Mp];exact hr
end
section
noncomputable def wV (P:Params) (h:Heap) (v:Value):WData→Prop
 | .int i=>∃ t,v=.int i t
 | .list xs=>∃ a vs,v=.ref a∧h.get? a=some (seqObj "list" vs.toArray 0)∧WellAll P h vs xs
 | _=>True
theorem wv {P:Params} {h:Heap} {v:Value} {d:WData} (x:Well P h v d):wV P h v d:=by
 cases x with
 | int i t=>exact ⟨t,rfl⟩
 | list g w=>exact ⟨_,_,rfl,g,w⟩
 | _=>exact trivial
noncomputable def wA (P:Params) (h:Heap) (vs:List Value):List WData→Prop
 | []=>vs=[]
 | d::ds=>∃ v r,vs=v::r∧Well P h v d∧WellAll P h r ds
theorem wa {P:Params} {h:Heap} {vs:List Value} {ds:List WData} (x:WellAll P h vs ds):wA P h vs ds:=by
 cases x with
 | nil=>rfl
 | cons a r=>exact ⟨_,_,rfl,a,r⟩
theorem AA {P:Params} {W:Wd} {F:Addr→Prop} {h:Heap} {ns:List Int}:∀ {vs:List Value},WellAll P h vs (ns.map .int)→bR W F h (ns.map .int) vs:=by
 induction ns with
 | nil=>intro vs x;rw [show vs=[] from wa x];exact .nil
 | cons n ns ih=>
  intro vs x
  obtain ⟨v,r,e,a,x⟩:=wa x
  obtain ⟨t,e2⟩:=wv a
  rw [e,e2];exact .cons (.int n t) (ih x)
theorem Bf (args ds:List WData):ee.toRowW.claim.post args (.bool true) ds=true:=by kernel_rfl
theorem MC {R:WRecords} {ns:List Int} (h:(WTm.and (.not (.lt (.lit (.int 63)) (.len (.arg 0)))) (.lit (.bool true))).holds R { args:=[.list (ns.map .int)] }=true):ns.length≤SZ:=by
 refine aH (n:=ns.length) (m:=63) (Classical.byContradiction fun hn=>?_) (by decide)
 have h63:(63:Int) < (ns.length:Int):=by lia
 simp [WTm.holds,WTm.value,less?,Num.less?,h63] at h
theorem Di {args:List WData} (h:ee.toRowW.claim.pre args=true):∃ ns:List Int,args=[.list (ns.map .int)]∧ns.length≤SZ:=by
 have p:=pre_splitW h
 obtain ⟨x,r,rfl,hx,hr⟩:=hasAllW_cons p.1
 obtain rfl:=hasAllW_nil hr
 obtain ⟨xs,rfl,hxs⟩:=hasW_list hx
 obtain ⟨ns,rfl⟩:=items_int hxs
 exact ⟨ns,rfl,MC p.2⟩
theorem EV {P:Params} {h:Heap} {vals:List Value} {ns:List Int} (x:WellAll P h vals [.list (ns.map .int)]):∃ l vs,vals=[.ref l]∧h.get? l=some (seqObj "list" vs.toArray 0)∧WellAll P h vs (ns.map .int):=by
 obtain ⟨v,r,e,a,x⟩:=wa x
 obtain ⟨l,vs,e2,g,w⟩:=wv a
 exact ⟨l,vs,by rw [e,e2,show r=[] from wa x],g,w⟩
theorem Ps {prog:Program} {w:World} {g:Nat→Obj} {h:Heap} {mg mb:PySem.Str→Option Value}:CS (B3 prog w g h mg mb):=by
 intro f p b sc hf e
 obtain ⟨d,h2,h3⟩:=GU hf e
 exact ⟨d,_,_,h2,h3⟩
theorem GT {q:Program} {loose:List PySem.Str} {XP:(PySem.Str→Option Value)→Heap→Prop} {d:DefRec} (hd:d.name="law") :
  WalkO q loose XP (fun _ h=>yn h) ee.toRowW d [] fun f vs=>PySem.call f vs:=by
 intro w s'0 s₁ mg mb G Y a o pm cd doc dV kV ho hdat hcd hdf hm hgens args vals as hpre
 obtain ⟨ns,rfl,hlen⟩:=Di hpre
 intro hlay hL hwell hsys
 obtain ⟨l,vs,rfl,hg,hvs⟩:=EV hwell
 obtain ⟨g,hw,fns,h346⟩:=Le (prog:=PySem.Challenge.pw_nz0119_01) (w:=w) G.T.g G.T.b G.T.nolimit Y
 have ha:a=wH 78:=Value.ref.inj (az ((hd▸hm.symm).trans (fns (78,"law") (dR (by rfl)))))
 rw [ha]
 have law:=Nc.OF ns
 unfold Nc.CN at law
 have run:=(Mk hw Ps 20).1.wp 78 [.list (ns.map .int)] none _ callerA (fun a=>L9 a∨a=l) s₁ [.ref l] none []
  (fun e s'=>GoodWG ee.toRowW.claim (classAt s'0.heap) (ExcName.means s'0.heap) [WData.list (ns.map .int)] s₁ (.error e) s') ⟨rfl,by decide,by decide⟩ (by decide) am (fun _=>.inl) (fun a h=>h.elim (fun e=>e▸h346) fun e=>e▸⟨_,hg⟩) (.cons (.list (n:=0) (.inr rfl) hg (by rw [ba];exact hlen) (AA hvs)) .nil) rfl cK (fun a h=>nomatch h) law
 refine ax run (fun v s' z=>?_) am
 obtain ⟨t,r',F',⟨rfl,rfl⟩,af,rv,_,_⟩:=z
 cases rv
 exact ⟨.inl ⟨_,.bool true,[],rfl,fun _=>rfl,.bool true,Bf _ _,fun _=>⟨cK,fun a h=>nomatch h⟩⟩,OldK.of_keep (fun b o e=>af.keep b o (fun h=>nomatch h) e),af.os,AllBare.of_eq (af.gens.trans hgens)⟩
theorem A5:chainsOk qL=true:=by kernel_rfl
theorem Ec:opensWell pp=true:=by
 have a:(opening pp).tameTopW=true:=by kernel_rfl
 have b:(!bearImports (behindTheImports pp))=true:=by kernel_rfl
 unfold opensWell
 rw [a,b];rfl
theorem Ff:(frees ee.toRowW&&ee.toRowW.within.isEmpty)=true:=by kernel_rfl
theorem MS:(chainsOk qL&&opensWell pp&&(frees ee.toRowW&&ee.toRowW.within.isEmpty))=true:=by rw [A5,Ec,Ff];rfl
theorem B5:pp.tablesWhole=true:=by kernel_rfl
theorem Hj:pp.bare:=⟨rfl,rfl,rfl,rfl,rfl,B5⟩
theorem NW:(defOf qL ee.name).map (fun x=>(x.2,kwWritten? x.1.params.kwonlyargs x.1.params.kw_defaults,x.1.name))=some ([],some [],Str.ofString "law"):=by kernel_rfl
theorem NM:(defOf qL ee.name).map (fun x=>some (x.1.params,x.1.body,x.1.scope))=some (ee.prog.theDef ee.name):=by kernel_rfl
theorem KH:∃ d,defOf qL ee.name=some (d,[])∧ee.prog.theDef ee.name=some (d.params,d.body,d.scope)∧kwWritten? d.params.kwonlyargs d.params.kw_defaults=some []∧d.name="law":=by
 obtain ⟨x,e,h⟩:=oE.mp NW
 have h2:=NM
 rw [e] at h2
 obtain ⟨d,l⟩:=x
 exact ⟨d,by rw [e];exact aw (fun y=>some (d,y)) (aw (·.1) h),(az h2).symm,aw (·.2.1) h,aw (·.2.2) h⟩
theorem xl:ee.toRowW.promised:=by w_witness2
theorem fin (Os:ee.wellSaid=true):ee.Holds:=by
 obtain ⟨d,d1,d2,d3,d4⟩:=KH
 exact holds_open (q:=qL) (loose:=qJ) (Xt:=Pp) (XP:=fun _ _=>True) (YP:=fun _ h=>yn h) (N:=20000) GD (fun _ _ e=>of_eq_true e) (fun _ _ _ x k=>x.keeps k) (fun _ _=>trivial) (fun _ _ _ _ _=>trivial) d1 d2 d3 (fun s e=>recFacts_of e) (by rfl) Os MS Hj xl (GT d4)
end
end Nz
theorem PySem.Challenge.cw_nz0119_01_holds : PySem.Challenge.rw_nz0119_01.Holds :=
  PySem.W.holds_law Nz.Os Nz.fin
