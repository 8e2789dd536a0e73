import PyProof.Rows.All
import Open.Line
import PySem.Syntax
import PyProof.SetScanFacts
import Wide.All
import OpenK.KMake
import KE.KDictOf
import KE.KSortTup
import KE.KDictList
import PyProof.ConsumeWalk
import PyProof.AttrMissHeap
import OpenK.KCls
import PyProof.Rows.SeqMore2
import KE.KIsNot
import PyProof.CompFree
import PyProof.CompMap
import PyProof.DictCompW
import PyProof.ForAny
import PyProof.ListOps
import OpenK.KLine
import Open.Pieces
import PySem.Challenge.RW_nz0119_01
set_option linter.all false
set_option Elab.async false
set_option maxRecDepth 100000
set_option tactic.hygienic false
set_option backward.match.sparseCases false
set_option genSizeOf false
set_option genInjectivity false
namespace Nz
open PySem PyProof.Rows PySem.W
abbrev cW:=PySem.Challenge.rw_nz0119_01.row
theorem am {α β} {P:α→β→Prop}:∀ a b,P a b→P a b:=fun _ _ e=>e
theorem ag {b:Prop} (h:b):True∧b:=⟨trivial,h⟩
noncomputable def ac:=@wpAny_bind
noncomputable def al:=@wpAny_pure
noncomputable def ax:=@wpAny_mono
noncomputable def b4:=@wpAny_holding
noncomputable def az:=@Option.some.inj
noncomputable def aV:=@List.mem_singleton
noncomputable def bU:=@Heap.get?_push_of_some
noncomputable def dH:=@Heap.get?_push_size
noncomputable def ba:=@List.length_map
noncomputable def cz:=@Bool.and_eq_true_iff
noncomputable def aI:=@Nat.le_trans
noncomputable def aY:=@List.all_eq_true
noncomputable def cq:=@List.getElem?_eq_getElem
noncomputable def aU:=@List.mem_cons
noncomputable def bI:=@of_decide_eq_true
noncomputable def bO:=@Bool.false_ne_true
noncomputable def bC:=@Bool.and_eq_true
noncomputable def bS:=@List.length_append
noncomputable def br:=@decide_eq_true
noncomputable def eC:=@List.eq_nil_of_length_eq_zero
noncomputable def du:=@List.mem_append_right
noncomputable def eW:=@List.mem_append_left
noncomputable def cD:=@List.mem_append
noncomputable def bo:=@List.mem_map
noncomputable def cP:=@List.size_toArray
noncomputable def cj:=@List.append_nil
noncomputable def cJ:=@List.nodup_nil
noncomputable def b8:=@List.mem_filter
noncomputable def g8:=@List.getElem?_eq_some_iff
noncomputable def cp:=@List.map_map
noncomputable def dL:=@List.getElem?_map
noncomputable def eF:=@beq_eq_false_iff_ne
noncomputable def cF:=@List.nodup_append
noncomputable def hQ:=@List.getD_eq_getElem?_getD
noncomputable def eG:=@Nat.lt_of_le_of_lt
noncomputable def eh:=@List.length_range
noncomputable def dK:=@List.map_append
noncomputable def cO:=@List.nodup_cons
noncomputable def gI:=@Nat.lt_of_lt_of_le
noncomputable def oK:=@Option.map_eq_some_iff
noncomputable def kS:=@Option.bind_eq_some_iff
noncomputable def i7:=@List.lookup_cons
noncomputable def au:=@if_pos
noncomputable def av:=@if_neg
noncomputable def aw:=@congrArg
noncomputable def bp:=@beq_iff_eq
noncomputable def c8:=@List.map_cons
noncomputable def eH:=@List.length_cons
noncomputable def iv:=@List.map_congr_left
noncomputable def eZ:=@Array.length_toList
noncomputable def gH:=@List.length_filter_le
noncomputable def f6:=@Heap.SameBut.update
noncomputable def dJ:=@wpAny_standAt
noncomputable def eP:=@wpAny_call_entry
noncomputable def fK:=@List.contains_iff_mem
noncomputable def iu:=@Heap.get?_update_other
noncomputable def fR:=@List.filter_sublist
noncomputable def fY:=@wpAny_dictEntries
noncomputable def fN:=@Option.bind_some
noncomputable def cr:=@Nat.zero_le
noncomputable def gT:=@wpAny_newObj_type
noncomputable def er:=@Nat.le_of_eq
noncomputable def gC:=@Nat.succ_le_succ
noncomputable def ei:=@Heap.lt_size
noncomputable def eK:=@decide_eq_false
noncomputable def jl:=@Int.eq_ofNat_of_zero_le
noncomputable def li:=@Heap.get?_update_self
noncomputable def hE:=@Int.natCast_nonneg
noncomputable def f7:=@Nat.lt_irrefl
noncomputable def mE:=@List.length_singleton
end Nz
namespace Nz
open PySem PyProof.Rows PySem.W
section
set_option maxHeartbeats 0
theorem yj:namesResolve cW.prog=true:=by kernel_rfl
theorem Bp:noRoadLSs { strict:=!(importedModules cW.prog.main.body).all cThrough.contains,foot:=none,bare:=(["vars","dir","locals"]:List Str).filter (readsOut cW.prog cW.prog.main.body) } cW.prog.main.body=true:=by kernel_rfl
theorem AQ:(namesMeet cW.prog cW.prog.main.body fun _ n=>attrL n)=true:=by kernel_rfl
theorem FE:cW.wellSaid=true:=by
 delta OpenRow.wellSaid
 repeat' with_reducible refine look_both ?_ ?_
 all_goals try (delta OpenRow.partSaid;repeat' with_reducible refine look_both ?_ ?_)
 all_goals try (delta looksOpen;repeat' with_reducible refine look_both ?_ ?_)
 all_goals first | with_reducible exact yj | with_reducible exact Bp | with_reducible exact AQ | kernel_rfl
theorem OV:OpenLaw.wellSaid PySem.Challenge.rw_nz0119_01=true:=by
 delta OpenLaw.wellSaid
 repeat' with_reducible refine look_both ?_ ?_
 ·exact FE
 all_goals kernel_rfl
end
end Nz
namespace Nz
section
theorem cps {P:Prop} (h:∀ G:Prop,(P→G)→G):P:=h P id
theorem nn {α:Type u} {P:Prop} {a:α} (h:none=some a):P:=nomatch h
theorem bt {P:Prop} (h:false=true):P:=nomatch h
theorem ifs {α:Type u} {P:Prop} {c:Prop} [Decidable c] {a t:α} (e:(if c then some a else none)=some t) (k:c→t=a→P):P:=by
 by_cases h:c
 ·rw [au h] at e;exact k h (az e).symm
 ·rw [av h] at e;exact nn e
theorem sD {α:Type u} {P:Prop} {c:Prop} [Decidable c] {a:Option α} {t:α} (e:(if c then a else none)=some t) (k:c→a=some t→P):P:=by
 by_cases h:c
 ·rw [au h] at e;exact k h e
 ·rw [av h] at e;exact nn e
theorem kG {α:Type u} {P:Prop} {c:Prop} [Decidable c] {a b:Option α} {t:α} (e:(if c then a else b)=some t) (k:c→a=some t→P) (f:b=some t→P):P:=by
 by_cases h:c
 ·rw [au h] at e;exact k h e
 ·rw [av h] at e;exact f e
theorem dy {α:Type u} {β:Type v} {P:Prop} {o:Option α} {f:α→Option β} {b:β} (e:o.bind f=some b) (k:∀ a,o=some a→f a=some b→P):P:=by
 induction o with
 | none=>exact nn e
 | some a=>exact k a rfl e
theorem eU {α:Type u} {β:Type v} {P:Prop} {o:Option α} {f:α→β} {b:β} (e:o.map f=some b) (k:∀ a,o=some a→b=f a→P):P:=by
 induction o with
 | none=>exact nn e
 | some a=>exact k a rfl (az e).symm
theorem eB {α β:Type} [BEq α] [LawfulBEq α] {a:α} {o:β} {l:List (α×β)} (h:l.lookup a=some o):(a,o)∈l:=by
 induction l with
 | nil=>exact nn h
 | cons p r ih=>
  rw [i7] at h
  induction q:a==p.1 with
  | true=>rw [q] at h;rw [bp.mp q,← az h];exact .head _
  | false=>rw [q] at h;exact .tail _ (ih h)
theorem N6 {α:Type u} {o:Option α} {p:α→Bool} (h:o.any p=true):∃ a,o=some a∧p a=true:=by
 induction o with
 | none=>exact bt h
 | some a=>exact ⟨a,rfl,h⟩
theorem Jt {α:Type u} {l:List α} (h:l.length≤1):l=[]∨∃ a,l=[a]:=by
 induction l with
 | nil=>exact .inl rfl
 | cons a r=>exact .inr ⟨a,aw (a::·) (eC (Nat.eq_zero_of_le_zero (Nat.le_of_succ_le_succ h)))⟩
end
end Nz
namespace Nz
open PySem
section
set_option genInjectivity true
noncomputable abbrev Nm:=Nat
noncomputable def SZ:Nat:=1048576
inductive bL where
 | I (i:Int) | S (s:Nat) | T (ks:List Int)
 deriving DecidableEq
inductive T where
 | none | bool (b:Bool) | int (i:Int) | str (s:Nat)
 | tup (xs:List T) | list (xs:List T) | dict (kvs:List (bL×T)) | set (xs:List Int)
 | dvals (kvs:List (bL×T)) | rng (n:Nat) | inst (c:Nat) (fs:List (Nat×T))
noncomputable def bZ:T→Bool | .none=>true | _=>false
noncomputable def FO:T→Option Bool | .bool b=>some b | _=>Option.none
noncomputable def gm:T→Option Int | .int i=>some i | _=>Option.none
noncomputable def Lx:T→Option Nat | .str i=>some i | _=>Option.none
noncomputable def EQ:T→Option (List T) | .tup xs=>some xs | _=>Option.none
noncomputable def jk:T→Option (List T) | .list xs=>some xs | _=>Option.none
noncomputable def lf:T→Option (List (bL×T)) | .dict kvs=>some kvs | _=>Option.none
theorem km {t:T} {b:List (bL×T)} (e:lf t=some b):t=.dict b:=by
 cases t with
 | dict c=>exact aw T.dict (az e)
 | _=>exact nn e
noncomputable def wL:T→Option (Nat×List (Nat×T)) | .inst c fs=>some (c,fs) | _=>Option.none
theorem pW {t:T} {p:Nat×List (Nat×T)} (e:wL t=some p):t=.inst p.1 p.2:=by
 cases t with
 | inst c fs=>exact aw (fun p:Nat×List (Nat×T)=>T.inst p.1 p.2) (az e)
 | _=>exact nn e
noncomputable def one {α:Type}:List α→Option α
 | []=>Option.none
 | a::r=>if r.isEmpty then some a else Option.none
noncomputable def two {α:Type}:List α→Option (α×α)
 | []=>Option.none
 | a::r=>(one r).map fun b=>(a,b)
theorem vQ {t:T} {b:Bool} (e:FO t=some b):t=.bool b:=by
 cases t with
 | bool c=>exact aw T.bool (az e)
 | _=>exact nn e
theorem cB {t:T} {b:Int} (e:gm t=some b):t=.int b:=by
 cases t with
 | int c=>exact aw T.int (az e)
 | _=>exact nn e
theorem yK {t:T} {b:Nat} (e:Lx t=some b):t=.str b:=by
 cases t with
 | str c=>exact aw T.str (az e)
 | _=>exact nn e
theorem qS {t:T} {b:List T} (e:EQ t=some b):t=.tup b:=by
 cases t with
 | tup c=>exact aw T.tup (az e)
 | _=>exact nn e
theorem et {t:T} {b:List T} (e:jk t=some b):t=.list b:=by
 cases t with
 | list c=>exact aw T.list (az e)
 | _=>exact nn e
theorem nr {t:T} (e:bZ t=true):t=.none:=by
 cases t with
 | none=>rfl
 | _=>exact bt e
theorem z8 {α:Type} {l:List α} {a:α} (e:one l=some a):l=[a]:=by
 induction l with
 | nil=>exact nn e
 | cons b r=>exact ifs e fun h te=>by rw [te,List.isEmpty_iff.mp h]
theorem xf {α:Type} {l:List α} {p:α×α} (e:two l=some p):l=[p.1,p.2]:=by
 induction l with
 | nil=>exact nn e
 | cons b r=>exact eU e fun a h te=>by rw [te,z8 h]
noncomputable def bL.kind:bL→Nat | .I _=>0 | .S _=>1 | .T _=>2
noncomputable def c6:List T→Option (List Int)
 | []=>some []
 | x::r=>(gm x).bind fun i=>(c6 r).map (i::·)
noncomputable def fQ:T→Option bL
 | .int i=>some (.I i)
 | .str s=>some (.S s)
 | .tup xs=>(c6 xs).map .T
 | _=>Option.none
noncomputable def cb:bL→T
 | .I i=>.int i
 | .S s=>.str s
 | .T ks=>.tup (ks.map .int)
noncomputable def tR (k:bL) (kvs:List (bL×T)):Bool:=kvs.all fun p=>p.1.kind==k.kind
noncomputable def gL (kvs:List (bL×T)) (k:bL):Option T:=(kvs.find? fun p=>decide (p.1=k)).map (·.2)
noncomputable def g5 (kvs:List (bL×T)) (k:bL) (v:T):List (bL×T):=
 if kvs.any (fun p=>decide (p.1=k)) then kvs.map (fun p=>if p.1=k then (p.1,v) else p) else kvs++[(k,v)]
noncomputable def lr (kvs:List (bL×T)) (k:bL) (v:T):Option (List (bL×T)):=
 if tR k kvs&&decide (kvs.length < SZ) then some (g5 kvs k v) else Option.none
noncomputable def io (a:Int):List Int→List Int
 | []=>[a]
 | b::r=>if a < b then a::b::r else if a=b then b::r else b::io a r
noncomputable def canon:List Int→List Int
 | []=>[]
 | a::r=>io a (canon r)
noncomputable def items:T→Option (List T)
 | .list xs=>some xs
 | .tup xs=>some xs
 | .dict kvs=>some (kvs.map fun p=>cb p.1)
 | .dvals kvs=>some (kvs.map (·.2))
 | .rng n=>some ((List.range n).map fun i=>.int (Int.ofNat i))
 | _=>Option.none
noncomputable def rT:T→Option Bool
 | .bool b=>some b
 | .int i=>some (i != 0)
 | .list xs=>some (!xs.isEmpty)
 | .tup xs=>some (!xs.isEmpty)
 | .dict kvs=>some (!kvs.isEmpty)
 | _=>Option.none
mutual
noncomputable def AA:T→T→Option Bool
 | .none=>fun t=>if bZ t then some true else Option.none
 | .bool a=>fun t=>(FO t).map fun b=>a==b
 | .int a=>fun t=>(gm t).map fun b=>decide (a=b)
 | .str a=>fun t=>(Lx t).map fun b=>decide (a=b)
 | .tup xs=>fun t=>(EQ t).bind fun ys=>xD xs ys
 | .list xs=>fun t=>(jk t).bind fun ys=>if xs.length=ys.length then xD xs ys else some false
 | _=>fun _=>Option.none
noncomputable def xD:List T→List T→Option Bool
 | []=>fun ys=>some ys.isEmpty
 | x::xs=>fun l=>match l with
  | []=>some false
  | y::ys=>(AA x y).bind fun a=>(xD xs ys).map fun b=>a&&b
end
noncomputable def NY (a b:List (bL×T)):Option Bool:=
 if a.length=b.length∧(a.all fun p=>tR p.1 b&&match gL b p.1 with | some v=>AA p.2 v==some true | Option.none=>false)=true then some true else Option.none
noncomputable def Ka (a b:T):Option Bool:=match lf a with
 | some p=>(lf b).bind (NY p)
 | Option.none=>AA a b
mutual
noncomputable def depth:T→Nat
 | .tup xs=>q4 xs+1
 | .list xs=>q4 xs+1
 | .dict kvs=>ij kvs+1
 | _=>0
noncomputable def q4:List T→Nat
 | []=>0
 | x::xs=>max (depth x) (q4 xs)
noncomputable def ij:List (bL×T)→Nat
 | []=>0
 | p::xs=>max (match p with | (_,t)=>depth t) (ij xs)
end
mutual
noncomputable def Qk:T→T→Option Bool
 | .int a,.int b=>some (decide (a < b))
 | .tup xs,.tup ys=>NE xs ys
 | _,_=>Option.none
noncomputable def NE:List T→List T→Option Bool
 | [],[]=>some false
 | [],_::_=>some true
 | _::_,[]=>some false
 | x::xs,y::ys=>match AA x y with
  | some true=>NE xs ys
  | some false=>Qk x y
  | Option.none=>Option.none
end
inductive Slot where
 | unb | val (t:T) | own (fx:Bool) (t:T)
noncomputable abbrev Env:=List (Nm×Slot)
noncomputable def Env.get:Env→Nm→Slot
 | [],_=>.unb
 | (y,s)::r,x=>if y=x then s else Env.get r x
noncomputable def Env.set:Env→Nm→Slot→Env
 | [],_,_=>[]
 | (y,s)::r,x,v=>if y=x then (y,v)::r else (y,s)::Env.set r x v
inductive Fl where | next | cont | brk | ret (t:T)
noncomputable abbrev aC:=Nat→List T→Option T→(T→Option T→Prop)→Prop
noncomputable abbrev SE:=aC→Env→(T→Env→Prop)→Prop
noncomputable abbrev sE:=aC→Env→(List T→Env→Prop)→Prop
noncomputable abbrev SB:=aC→Env→(Bool→Env→Prop)→Prop
noncomputable abbrev SS:=aC→Env→(Fl→Env→Prop)→Prop
noncomputable def fX {α:Type} (o:Option α) (Q:α→Prop):Prop:=match o with | some a=>Q a | Option.none=>False
theorem ab {α:Type} {o:Option α} {a:α} {Q:α→Prop} (e:o=some a) (h:Q a):fX o Q:=by rw [e];exact h
noncomputable def bq (b:Bool) (p q:Prop):Prop:=match b with | true=>p | false=>q
noncomputable def b5:SE:=fun _ _ _=>False
noncomputable def ah (t:T):SE:=fun _ ρ Q=>Q t ρ
noncomputable def sj (s:Slot) (Q:T→Prop):Prop:=match s with | .val t=>Q t | .own _ t=>Q t | .unb=>False
noncomputable def ae (x:Nm):SE:=fun _ ρ Q=>match ρ.get x with
 | .val t=>Q t ρ
 | .own false t=>Q t (ρ.set x (.val t))
 | _=>False
inductive ji where | e (s:SE) | v (x:Nm)
noncomputable def ji.run (o:ji):SE:=match o with
 | .e s=>s
 | .v x=>fun _ ρ Q=>sj (ρ.get x) fun t=>Q t ρ
noncomputable def ak:sE:=fun _ ρ Q=>Q [] ρ
noncomputable def aa (s:SE) (r:sE):sE:=fun C ρ Q=>s C ρ fun t ρ=>r C ρ fun ts ρ=>Q (t::ts) ρ
noncomputable def Iw (xs ys:List Int):Bool:=decide (xs.length+ys.length≤15)&&xs.all (fun k=>decide (0≤k∧k < 32))&&ys.all (fun k=>decide (0≤k∧k < 32))
noncomputable def small (a:Int):Bool:=decide (a.natAbs < 18446744073709551616)
noncomputable def Ny (a b:Int):Operator→Option T
 | .Add=>some (.int (a+b))
 | .Sub=>some (.int (a - b))
 | .Mult=>if small a||small b then some (.int (a*b)) else Option.none
 | .FloorDiv=>if 0 < b∧b < 1073741824 then some (.int (a / b)) else Option.none
 | .Mod=>if 0 < b then some (.int (a % b)) else Option.none
 | .Pow=>if small a&&decide (0≤b)&&decide (b≤18) then some (.int (a ^ b.toNat)) else Option.none
 | .BitAnd=>if a=0∧0≤b then some (.int 0) else Option.none
 | _=>Option.none
noncomputable def Jy:Operator→Bool | .Add=>true | _=>false
noncomputable def PN:Operator→Bool | .BitOr=>true | _=>false
noncomputable def NW:T→Option (List Int) | .set xs=>some xs | _=>Option.none
theorem LU {t:T} {b:List Int} (e:NW t=some b):t=.set b:=by
 cases t with
 | set c=>exact aw T.set (az e)
 | _=>exact nn e
noncomputable def s8 (op:Operator):T→T→Option T
 | .int a=>fun y=>(gm y).bind fun b=>Ny a b op
 | .tup xs=>fun y=>(EQ y).bind fun ys=>if Jy op then (if xs.length+ys.length≤SZ then some (.tup (xs++ys)) else Option.none) else Option.none
 | .list xs=>fun y=>(jk y).bind fun ys=>if Jy op then (if xs.length+ys.length≤SZ then some (.list (xs++ys)) else Option.none) else Option.none
 | .set xs=>fun y=>(NW y).bind fun ys=>if PN op then (if Iw xs ys then some (.set (canon (xs++ys))) else Option.none) else Option.none
 | _=>fun _=>Option.none
noncomputable def cx (op:Operator) (l r:SE):SE:=fun C ρ Q=>l C ρ fun a ρ=>r C ρ fun b ρ=>fX (s8 op a b) fun t=>Q t ρ
noncomputable def NB:T→Option T | .int a=>some (.int (-a)) | _=>Option.none
noncomputable def sK (s:SE):SE:=fun C ρ Q=>s C ρ fun a ρ=>fX (NB a) fun t=>Q t ρ
noncomputable def Kl:T→Bool | .str _=>true | _=>false
noncomputable def PA (s:Nat):T→Bool | .str u=>s==u | _=>false
noncomputable def O3 (a b:T):Option Bool:=match b with
 | .dict kvs=>(fQ a).bind fun k=>if tR k kvs then some (gL kvs k).isSome else Option.none
 | .set xs=>(gm a).map fun i=>xs.contains i
 | .list xs=>(gm a).bind fun i=>(c6 xs).map fun l=>l.contains i
 | .tup xs=>(Lx a).bind fun s=>if xs.all Kl then some (xs.any (PA s)) else Option.none
 | _=>Option.none
noncomputable def FM (f:Int→Int→Bool) (a b:T):Option Bool:=(gm a).bind fun p=>(gm b).map fun q=>f p q
noncomputable def kD (op:CmpOp) (a b:T):Option Bool:=match op with
 | .Eq=>if depth a≤60 then Ka a b else Option.none
 | .NotEq=>if depth a≤60 then (Ka a b).map (!·) else Option.none
 | .Lt=>FM (fun a b=>decide (a < b)) a b
 | .LtE=>FM (fun a b=>decide (a≤b)) a b
 | .Gt=>FM (fun a b=>decide (b < a)) a b
 | .GtE=>FM (fun a b=>decide (b≤a)) a b
 | .Is=>if bZ b then some (bZ a) else Option.none
 | .IsNot=>if bZ b then some (!bZ a) else Option.none
 | .In=>O3 a b
 | .NotIn=>(O3 a b).map (!·)
noncomputable def aD (op:CmpOp) (l:SE) (r:ji):SB:=fun C ρ Q=>l C ρ fun a ρ=>r.run C ρ fun b ρ=>fX (kD op a b) fun t=>Q t ρ
noncomputable def nj (op op':CmpOp) (l m r:SE):SB:=fun C ρ Q=>l C ρ fun a ρ=>m C ρ fun b ρ=>fX (kD op a b) fun t=>bq t (r C ρ fun c ρ=>fX (kD op' b c) fun u=>Q u ρ) (Q false ρ)
noncomputable def gV (op:CmpOp) (l:SE) (r:ji):SE:=fun C ρ Q=>aD op l r C ρ fun b ρ=>Q (.bool b) ρ
noncomputable def cQ (o:ji):SB:=fun C ρ Q=>o.run C ρ fun t ρ=>fX (rT t) fun b=>Q b ρ
noncomputable def rF (s:SB):SB:=fun C ρ Q=>s C ρ fun b ρ=>Q (!b) ρ
noncomputable def aH:SB:=fun _ ρ Q=>Q true ρ
noncomputable def nz:SB:=fun _ ρ Q=>Q false ρ
noncomputable def Ao:SB:=fun _ _ _=>False
noncomputable def bB (s r:SB):SB:=fun C ρ Q=>s C ρ fun b ρ=>bq b (r C ρ Q) (Q false ρ)
noncomputable def vM (s r:SB):SB:=fun C ρ Q=>s C ρ fun b ρ=>bq b (Q true ρ) (r C ρ Q)
noncomputable def JD (c a b:SB):SB:=fun C ρ Q=>c C ρ fun t ρ=>bq t (a C ρ Q) (b C ρ Q)
noncomputable def iX (c:SB) (a b:SE):SE:=fun C ρ Q=>c C ρ fun t ρ=>bq t (a C ρ Q) (b C ρ Q)
noncomputable def LB (s r:SE):SE:=fun C ρ Q=>s C ρ fun t ρ=>fX (rT t) fun b=>bq b (r C ρ Q) (Q t ρ)
noncomputable def O0 (s r:SE):SE:=fun C ρ Q=>s C ρ fun t ρ=>fX (rT t) fun b=>bq b (Q t ρ) (r C ρ Q)
noncomputable def aO (ss:sE):SE:=fun C ρ Q=>ss C ρ fun ts ρ=>Q (.tup ts) ρ
noncomputable def bM (ss:sE):SE:=fun C ρ Q=>ss C ρ fun ts ρ=>Q (.list ts) ρ
noncomputable def lD:List (T×T)→List (bL×T)→Option (List (bL×T))
 | [],d=>some d
 | (k,v)::r,d=>(fQ k).bind fun k=>(lr d k v).bind fun d=>lD r d
noncomputable def dN:SE:=fun _ ρ Q=>Q (.dict []) ρ
noncomputable def rX (k v:SE):SE:=fun C ρ Q=>k C ρ fun a ρ=>v C ρ fun b ρ=>fX (fQ a) fun k=>Q (.dict [(k,b)]) ρ
inductive Bi where | len | sorted | tuple | list | dict | set | abs | int | range | all
noncomputable def N0:T→Option Nat
 | .list xs=>some xs.length
 | .tup xs=>some xs.length
 | .dict kvs=>some kvs.length
 | .set xs=>some xs.length
 | _=>Option.none
noncomputable def vg (t:T):Option (T×T):=(EQ t).bind two
theorem rh {t:T} {p:T×T} (e:vg t=some p):t=.tup [p.1,p.2]:=dy e fun a h1 h2=>by rw [qS h1,xf h2]
noncomputable def fH:List T→Option (List (T×T))
 | []=>some []
 | x::r=>(vg x).bind fun p=>(fH r).map (p::·)
noncomputable def v6:List T→Option (List Bool)
 | []=>some []
 | x::r=>(FO x).bind fun b=>(v6 r).map (b::·)
noncomputable def gX (sh:Bool) (p:Int×Int):T:=match sh with | false=>.tup [.int p.1,.int p.2] | true=>.tup [.tup [.int p.1],.int p.2]
noncomputable def Qi (sh:Bool) (t:T):Option Int:=match sh with
 | false=>gm t
 | true=>((EQ t).bind one).bind gm
noncomputable def pk (sh:Bool) (t:T):Option (Int×Int):=(vg t).bind fun p=>(Qi sh p.1).bind fun a=>(gm p.2).map fun b=>(a,b)
noncomputable def NS (sh:Bool):List T→Option (List (Int×Int))
 | []=>some []
 | x::r=>(pk sh x).bind fun p=>(NS sh r).map (p::·)
noncomputable def dc (p q:Int×Int):Bool:=decide (p.1 < q.1)||(decide (p.1=q.1)&&decide (p.2 < q.2))
noncomputable def w5 (p:Int×Int):List (Int×Int)→List (Int×Int)
 | []=>[p]
 | q::r=>if dc p q then p::q::r else q::w5 p r
noncomputable def bh:List (Int×Int)→List (Int×Int)
 | []=>[]
 | p::r=>w5 p (bh r)
noncomputable def lj (sh:Bool) (xs:List T):Option (List T):=(NS sh xs).bind fun ps=>if ps.length≤4∧ps.Nodup then some ((bh ps).map (gX sh)) else Option.none
noncomputable def iF (xs:List T):Option (List T):=
 if xs.length≤1 then some xs else match c6 xs with
  | some l=>if l.length < 60∧l.Nodup then some ((canon l).map .int) else Option.none
  | Option.none=>match lj false xs with
   | some r=>some r
   | Option.none=>lj true xs
noncomputable def PM:bL→Bool | .I _=>true | _=>false
noncomputable def Go:bL→Option (List Int) | .T ks=>some ks | _=>Option.none
theorem Lk {k:bL} {ks:List Int} (e:Go k=some ks):k=.T ks:=by
 induction k with
 | T c=>exact aw bL.T (az e)
 | _=>exact nn e
noncomputable def xT (k:bL):Bool:=(((Go k).bind two).map fun p=>decide (0≤p.1∧p.1 < 12∧0≤p.2∧p.2 < 12)).getD false
noncomputable def jo (kvs:List (bL×T)):Bool:=(decide (kvs.length≤8)&&kvs.all fun p=>PM p.1)||kvs.all fun p=>xT p.1
noncomputable def JS:T→Option (List T) | .list xs=>some xs | .tup xs=>some xs | _=>Option.none
noncomputable def bi (b:Bi) (t:T):Option T:=match b with
 | .len=>(N0 t).map fun n:Nat=>T.int (n:Int)
 | .sorted=>match t with
  | .set xs=>if xs.length < 60 then some (.list (xs.map .int)) else Option.none
  | .dict kvs=>(iF (kvs.map fun p=>cb p.1)).map .list
  | .list xs=>(iF xs).map .list
  | _=>Option.none
 | .tuple=>(JS t).map .tup
 | .list=>(JS t).map .list
 | .dict=>match t with
  | .list xs=>((fH xs).bind fun ps=>lD ps []).map .dict
  | .dict kvs=>if jo kvs then some (.dict kvs) else Option.none
  | _=>Option.none
 | .set=>(jk t).bind fun xs=>if xs.length≤1000 then (c6 xs).map fun l=>.set (canon l) else Option.none
 | .abs=>(gm t).map fun a=>.int a.natAbs
 | .int=>(gm t).map .int
 | .range=>(gm t).bind fun a=>if 0≤a∧a≤SZ then some (.rng a.toNat) else Option.none
 | .all=>(jk t).bind fun xs=>(v6 xs).map fun l=>.bool (l.all id)
noncomputable def bW (b:Bi) (o:ji):SE:=fun C ρ Q=>o.run C ρ fun t ρ=>fX (bi b t) fun t=>Q t ρ
noncomputable def qc (o:SE) (c:Nat):SE:=fun C ρ Q=>o C ρ fun t ρ=>fX (wL t) fun p=>p.1 < 14∧c=14∧Q (.bool false) ρ
noncomputable def idxOf (i:Int) (n:Nat):Option Nat:=if 0≤i then (if i.toNat < n then some i.toNat else Option.none) else if i=-1∧0 < n then some (n - 1) else Option.none
noncomputable def getItem (o i:T):Option T:=match o with
 | .list xs=>(gm i).bind fun k=>(idxOf k xs.length).bind fun j=>xs[j]?
 | .tup xs=>(gm i).bind fun k=>(idxOf k xs.length).bind fun j=>xs[j]?
 | .dict kvs=>(fQ i).bind fun k=>if tR k kvs then gL kvs k else Option.none
 | _=>Option.none
noncomputable def isB:Slot→Prop | .unb=>False | _=>True
noncomputable def aZ (o:ji) (i:SE):SE:=match o with
 | .e s=>fun C ρ Q=>s C ρ fun to ρ=>i C ρ fun ti ρ=>fX (getItem to ti) fun t=>Q t ρ
 | .v x=>fun C ρ Q=>isB (ρ.get x)∧i C ρ fun ti ρ=>sj (ρ.get x) fun to=>fX (getItem to ti) fun t=>Q t ρ
noncomputable def Oe (xs:List T) (lo hi:Option Int):Option (List T):=match lo,hi with
 | Option.none,some h=>if 0≤h then some (xs.take h.toNat) else Option.none
 | some l,some h=>if 0≤l∧h=-1 then some ((xs.take (xs.length - 1)).drop l.toNat) else Option.none
 | _,_=>Option.none
noncomputable def cutT (o:T) (lo hi:Option Int):Option T:=match o with
 | .list xs=>(match lo with | Option.none=>(Oe xs lo hi).map .list | some _=>Option.none)
 | .tup xs=>(Oe xs lo hi).map .tup
 | _=>Option.none
noncomputable def u7 (o hi:SE):SE:=fun C ρ Q=>o C ρ fun to ρ=>hi C ρ fun th ρ=>fX (gm th) fun h=>fX (cutT to Option.none (some h)) fun t=>Q t ρ
noncomputable def Ks (o lo hi:SE):SE:=fun C ρ Q=>o C ρ fun to ρ=>lo C ρ fun tl ρ=>hi C ρ fun th ρ=>fX (gm tl) fun l=>fX (gm th) fun h=>fX (cutT to (some l) (some h)) fun t=>Q t ρ
noncomputable def wb (fs:List (Nat×T)) (a:Nat):Option T:=(fs.find? fun p=>p.1==a).map (·.2)
noncomputable def Bo:List (Nat×T)→Nat→T→List (Nat×T)
 | [],a,v=>[(a,v)]
 | p::r,a,v=>if p.1=a then (p.1,v)::r else p::Bo r a v
noncomputable def IJ:List (List Nat):=[[1,3],[6],[8],[11,12],[15],[17,18,19,20],[21,22,23,24],[27,28,29,30,31,32],[6,34,8,35,36],[38,39],[40,41,42],[40,44],[45,39,44],[48,49,50,51,52]]
noncomputable def fields (c:Nat):List Nat:=IJ[c]?.getD []
theorem tK {c a:Nat} (h:(fields c).contains a=true):c < 14:=Nat.lt_of_not_le fun q=>by
 unfold fields at h
 rw [List.getElem?_eq_none (show IJ.length≤c from q)] at h;exact bt h
noncomputable def EF (t:T) (a:Nat):Option T:=(wL t).bind fun p=>if (fields p.1).contains a then wb p.2 a else Option.none
noncomputable def aq (o:ji) (a:Nat):SE:=fun C ρ Q=>o.run C ρ fun t ρ=>fX (EF t a) fun t=>Q t ρ
inductive m8 where | one (x:Nm) | many (xs:List Nm)
noncomputable def mJ:List Nm→List T→Env→Env
 | x::xs,t::ts,ρ=>mJ xs ts (ρ.set x (.val t))
 | _,_,ρ=>ρ
noncomputable def eD (g:m8) (t:T) (ρ:Env) (Q:Env→Prop):Prop:=match g with
 | .one x=>Q (ρ.set x (.val t))
 | .many xs=>match t with
  | .tup ts=>if ts.length=xs.length then Q (mJ xs ts ρ) else False
  | _=>False
noncomputable def iV (o:ji) (ρ:Env):Option Nm:=match o with
 | .e _=>Option.none
 | .v x=>match ρ.get x with | .own _ _=>some x | _=>Option.none
noncomputable def mx (o:ji) (ρ0:Env) (n:Nat) (ρ:Env):Prop:=match iV o ρ0 with | some x=>Env.get (ρ.drop n) x=ρ0.get x | Option.none=>True
noncomputable def fW (o:ji) (ρ0:Env) (t:T):Option (List T):=match iV o ρ0 with
 | Option.none=>items t
 | some _=>jk t
noncomputable def uT (ok:Env→Prop) (g:m8) (ifs:SB) (elt:SE) (C:aC):List T→Env→List T→(List T→Env→Prop)→Prop
 | [],ρ,acc,Q=>Q acc ρ
 | x::xs,ρ,acc,Q=>eD g x ρ fun ρ=>ifs C ρ fun b ρ=>bq b
   (elt C ρ fun t ρ=>ok ρ∧uT ok g ifs elt C xs ρ (acc++[t]) Q)
   (ok ρ∧uT ok g ifs elt C xs ρ acc Q)
@[irreducible] noncomputable def ce (ok:Env→Prop) (g:m8) (ifs:SB) (elt:SE) (C:aC) (xs:List T) (ρ:Env) (acc:List T) (Q:List T→Env→Prop):Prop:=uT ok g ifs elt C xs ρ acc Q
noncomputable def rq (ok:Env→Prop) (g:m8) (ifs:SB) (k v:SE) (C:aC):List T→Env→List (bL×T)→(List (bL×T)→Env→Prop)→Prop
 | [],ρ,acc,Q=>Q acc ρ
 | x::xs,ρ,acc,Q=>eD g x ρ fun ρ=>ifs C ρ fun b ρ=>bq b
   (k C ρ fun tk ρ=>v C ρ fun tv ρ=>fX (fQ tk) fun k'=>fX (lr acc k' tv) fun acc=>ok ρ∧rq ok g ifs k v C xs ρ acc Q)
   (ok ρ∧rq ok g ifs k v C xs ρ acc Q)
@[irreducible] noncomputable def cS (ok:Env→Prop) (g:m8) (ifs:SB) (k v:SE) (C:aC) (xs:List T) (ρ:Env) (acc:List (bL×T)) (Q:List (bL×T)→Env→Prop):Prop:=rq ok g ifs k v C xs ρ acc Q
theorem lz {ok:Env→Prop} {g:m8} {ifs:SB} {elt:SE} {C:aC} {ρ:Env} {acc:List T} {Q:List T→Env→Prop}:ce ok g ifs elt C [] ρ acc Q=Q acc ρ:=by unfold ce;rfl
theorem j7 {ok:Env→Prop} {g:m8} {ifs:SB} {elt:SE} {C:aC} {x:T} {xs:List T} {ρ:Env} {acc:List T} {Q:List T→Env→Prop}:ce ok g ifs elt C (x::xs) ρ acc Q =
  eD g x ρ fun ρ=>ifs C ρ fun b ρ=>bq b (elt C ρ fun t ρ=>ok ρ∧ce ok g ifs elt C xs ρ (acc++[t]) Q) (ok ρ∧ce ok g ifs elt C xs ρ acc Q):=by unfold ce;rfl
theorem jv {ok:Env→Prop} {g:m8} {ifs:SB} {k v:SE} {C:aC} {ρ:Env} {acc:List (bL×T)} {Q:List (bL×T)→Env→Prop}:cS ok g ifs k v C [] ρ acc Q=Q acc ρ:=by unfold cS;rfl
theorem mP {ok:Env→Prop} {g:m8} {ifs:SB} {k v:SE} {C:aC} {x:T} {xs:List T} {ρ:Env} {acc:List (bL×T)} {Q:List (bL×T)→Env→Prop}:cS ok g ifs k v C (x::xs) ρ acc Q =
  eD g x ρ fun ρ=>ifs C ρ fun b ρ=>bq b (k C ρ fun tk ρ=>v C ρ fun tv ρ=>fX (fQ tk) fun k'=>fX (lr acc k' tv) fun acc=>ok ρ∧cS ok g ifs k v C xs ρ acc Q) (ok ρ∧cS ok g ifs k v C xs ρ acc Q):=by unfold cS;rfl
noncomputable def c9 (xs:List Nm) (ρ:Env):Env:=xs.map (fun x=>(x,Slot.unb))++ρ
noncomputable def aE (vs:List Nm) (o:ji) (g:m8) (ifs:SB) (elt:SE):SE:=fun C ρ Q=>
 o.run C ρ fun t ρ0=>fX (fW o ρ0 t) fun xs=>ce (mx o ρ0 vs.length) g ifs elt C xs (c9 vs ρ0) [] fun l ρ=>Q (.list l) (ρ.drop vs.length)
noncomputable def oi (vs:List Nm) (o:ji) (g:m8) (ifs:SB) (k v:SE):SE:=fun C ρ Q=>
 o.run C ρ fun t ρ0=>fX (fW o ρ0 t) fun xs=>cS (mx o ρ0 vs.length) g ifs k v C xs (c9 vs ρ0) [] fun l ρ=>Q (.dict l) (ρ.drop vs.length)
noncomputable def zL (C:aC) (f:Nat) (ts:List T) (s:Slot) (Q:T→Slot→Prop):Prop:=match s with
 | .own fx t=>C f ts (some t) fun v t'=>fX t' fun t'=>Q v (.own fx t')
 | _=>False
noncomputable def aK (f:Nat) (ss:sE) (r:Option Nm):SE:=fun C ρ Q=>(match r with | Option.none=>True | some x=>isB (ρ.get x))∧ss C ρ fun ts ρ=>match r with
 | Option.none=>C f ts Option.none fun t _=>Q t ρ
 | some x=>zL C f ts (ρ.get x) fun v s=>Q v (ρ.set x s)
noncomputable abbrev HF:=Nat→Nat→Option Nat
noncomputable def FB (mt:HF) (to:T) (nm:Nat):Option Nat:=(wL to).bind fun p=>if (wb p.2 nm).isNone then mt p.1 nm else Option.none
inductive BM where | get | values | index
noncomputable def OF (b:BM) (to:T) (ts:List T):Option T:=match b with
 | .get=>(lf to).bind fun kvs=>(two ts).bind fun p=>(fQ p.1).bind fun k=>if tR k kvs then some ((gL kvs k).getD p.2) else Option.none
 | .values=>(lf to).bind fun kvs=>if ts.isEmpty then some (.dvals kvs) else Option.none
 | .index=>(jk to).bind fun xs=>((one ts).bind gm).bind fun i=>(c6 xs).bind fun l=>if l.contains i then some (.int (l.idxOf i)) else Option.none
noncomputable def cy (mt:HF) (o:SE) (nm:Nat) (ss:sE):SE:=fun C ρ Q=>o C ρ fun to ρ=>fX (FB mt to nm) fun f=>ss C ρ fun ts ρ=>C f (to::ts) Option.none fun t _=>Q t ρ
noncomputable def Pz:BM→T→Bool
 | .get=>fun t=>(lf t).isSome
 | .values=>fun t=>(lf t).isSome
 | .index=>fun t=>(jk t).isSome
theorem zU {P:Prop} {t:T} (h:(lf t).isSome=true) (k:∀ kvs,t=.dict kvs→P):P:=by
 induction q:lf t with
 | none=>rw [q] at h;exact bt h
 | some kvs=>exact k kvs (km q)
noncomputable def Aq (b:BM) (o:ji) (ss:sE):SE:=match o with
 | .e s=>fun C ρ Q=>s C ρ fun to ρ=>Pz b to=true∧ss C ρ fun ts ρ=>fX (OF b to ts) fun t=>Q t ρ
 | .v x=>fun C ρ Q=>sj (ρ.get x) (fun to=>Pz b to=true)∧ss C ρ fun ts ρ=>sj (ρ.get x) fun to=>fX (OF b to ts) fun t=>Q t ρ
noncomputable def dE (c f:Nat) (ss:sE):SE:=fun C ρ Q=>ss C ρ fun ts ρ=>c < 14∧C f ts (some (.inst c [])) fun r t'=>r=.none∧fX t' fun t'=>Q t' ρ
noncomputable def ua:SS:=fun _ _ _=>False
noncomputable def aj:SS:=fun _ ρ Q=>Q .next ρ
noncomputable def ai (a b:SS):SS:=fun C ρ Q=>a C ρ fun fl ρ=>match fl with | .next=>b C ρ Q | f=>Q f ρ
noncomputable def dQ (s:Slot):Prop:=match s with | .own true _=>False | _=>True
noncomputable def ay (x:Nm) (e:SE):SS:=fun C ρ Q=>e C ρ fun t ρ=>dQ (ρ.get x)∧Q .next (ρ.set x (.val t))
noncomputable def ii (x:Nm) (e:SE):SS:=fun C ρ Q=>e C ρ fun t ρ=>dQ (ρ.get x)∧Q .next (ρ.set x (.own false t))
noncomputable def vY (xs:List Nm) (e:SE):SS:=fun C ρ Q=>e C ρ fun t ρ=>eD (.many xs) t ρ fun ρ=>Q .next ρ
noncomputable def j5 (o i v:T):Option T:=match o with
 | .dict kvs=>(fQ i).bind fun k=>(lr kvs k v).map .dict
 | .list xs=>(gm i).bind fun k=>if 0≤k∧k.toNat < xs.length then some (.list (xs.set k.toNat v)) else Option.none
 | _=>Option.none
noncomputable def bG (x:Nm) (i v:SE):SS:=fun C ρ Q=>v C ρ fun tv ρ=>isB (ρ.get x)∧i C ρ fun ti ρ=>match ρ.get x with
 | .own fx to=>fX (j5 to ti tv) fun to'=>Q .next (ρ.set x (.own fx to'))
 | _=>False
noncomputable def AG (t:T) (a:Nat) (v:T):Option T:=(wL t).bind fun p=>if (fields p.1).contains a&&decide (p.2.length < 99) then some (.inst p.1 (Bo p.2 a v)) else Option.none
noncomputable def aF (x:Nm) (a:Nat) (v:SE):SS:=fun C ρ Q=>v C ρ fun tv ρ=>match ρ.get x with
 | .own fx to=>fX (AG to a tv) fun to'=>Q .next (ρ.set x (.own fx to'))
 | _=>False
noncomputable def IW (o v:T):Option T:=(jk o).bind fun xs=>if xs.length < SZ then some (.list (xs++[v])) else Option.none
noncomputable def AX (o v:T):Option T:=(jk o).bind fun xs=>(jk v).bind fun ys=>if xs.length+ys.length≤SZ then some (.list (xs++ys)) else Option.none
noncomputable def MY:Slot→Prop | .own _ (.list _)=>True | _=>False
noncomputable def j8 (x:Nm) (e:SE):SS:=fun C ρ Q=>MY (ρ.get x)∧e C ρ fun t ρ=>match ρ.get x with
 | .own fx to=>fX (IW to t) fun to'=>Q .next (ρ.set x (.own fx to'))
 | _=>False
noncomputable def mF (x:Nm) (e:SE):SS:=fun C ρ Q=>MY (ρ.get x)∧e C ρ fun t ρ=>match ρ.get x with
 | .own fx to=>fX (AX to t) fun to'=>Q .next (ρ.set x (.own fx to'))
 | _=>False
noncomputable def EG (e:SE):SS:=fun C ρ Q=>e C ρ fun t ρ=>match t with | .none=>Q .next ρ | _=>False
noncomputable def aR (e:SE):SS:=fun C ρ Q=>e C ρ fun t ρ=>Q (.ret t) ρ
noncomputable def C7:SS:=fun _ ρ Q=>Q .cont ρ
noncomputable def fq (c:SB) (a b:SS):SS:=fun C ρ Q=>c C ρ fun t ρ=>bq t (a C ρ Q) (b C ρ Q)
noncomputable def kq (c:SB) (b:SS) (C:aC):Nat→Env→(Fl→Env→Prop)→Prop
 | 0,_,_=>False
 | n+1,ρ,Q=>c C ρ fun t ρ=>bq t (b C ρ fun fl ρ=>match fl with
   | .next=>kq c b C n ρ Q
   | .cont=>kq c b C n ρ Q
   | .brk=>Q .next ρ
   | .ret t=>Q (.ret t) ρ) (Q .next ρ)
noncomputable def rG (c:SB) (b:SS):SS:=fun C ρ Q=>∃ n,kq c b C n ρ Q
noncomputable def yC (g:m8) (b:SS) (C:aC):List T→Env→(Fl→Env→Prop)→Prop
 | [],ρ,Q=>Q .next ρ
 | x::xs,ρ,Q=>eD g x ρ fun ρ=>b C ρ fun fl ρ=>match fl with
   | .next=>yC g b C xs ρ Q
   | .cont=>yC g b C xs ρ Q
   | .brk=>Q .next ρ
   | .ret t=>Q (.ret t) ρ
@[irreducible] noncomputable def eY (g:m8) (b:SS) (C:aC) (xs:List T) (ρ:Env) (Q:Fl→Env→Prop):Prop:=yC g b C xs ρ Q
theorem oj {g:m8} {b:SS} {C:aC} {ρ:Env} {Q:Fl→Env→Prop}:eY g b C [] ρ Q=Q .next ρ:=by unfold eY;rfl
theorem lE {g:m8} {b:SS} {C:aC} {x:T} {xs:List T} {ρ:Env} {Q:Fl→Env→Prop}:eY g b C (x::xs) ρ Q =
  eD g x ρ fun ρ=>b C ρ fun fl ρ=>match fl with
   | .next=>eY g b C xs ρ Q
   | .cont=>eY g b C xs ρ Q
   | .brk=>Q .next ρ
   | .ret t=>Q (.ret t) ρ:=by unfold eY;rfl
noncomputable def fI (o:ji) (g:m8) (b:SS):SS:=fun C ρ Q=>o.run C ρ fun t ρ0=>iV o ρ0=Option.none∧fX (items t) fun xs=>eY g b C xs ρ0 Q
structure aG where
 params:List Nm
 ref:Option Nm
 dflts:List T
 locals:List Nm
 fresh:Bool
 body:SS
noncomputable def ja (ref:Option Nm):List Nm→List T→Option T→Option Env
 | [],[],_=>some []
 | x::xs,ts,r=>if ref=some x then (match r with | some t=>(ja ref xs ts r).map ((x,Slot.own true t)::·) | Option.none=>Option.none)
   else (match ts with | t::ts=>(ja ref xs ts r).map ((x,Slot.val t)::·) | []=>Option.none)
 | [],_::_,_=>Option.none
noncomputable def sd (n:Nat) (ts ds:List T):List T:=ts++ds.drop (ds.length - (n - ts.length))
noncomputable def Bz:Fl→T | .ret t=>t | _=>.none
noncomputable def nZ (ref:Option Nm) (ρ:Env) (Q:Option T→Prop):Prop:=match ref with
 | Option.none=>Q Option.none
 | some x=>match ρ.get x with | .own true t=>Q (some t) | _=>False
noncomputable def uK (fd:aG):Nat:=fd.params.length - (match fd.ref with | some _=>1 | Option.none=>0)
noncomputable def Pm (fd:aG) (C:aC) (ts:List T) (r:Option T) (Q:T→Option T→Prop):Prop:=
 fX (ja fd.ref fd.params (sd (uK fd) ts fd.dflts) r) fun ρ=>fd.body C (ρ++c9 fd.locals []) fun fl ρ=>nZ fd.ref ρ fun r'=>Q (Bz fl) r'
noncomputable def ud (tab:Nat→Option aG):Nat→aC
 | 0=>fun _ _ _ _=>False
 | n+1=>fun f ts r Q=>fX (tab f) fun fd=>fd.ref.isSome=r.isSome∧Pm fd (ud tab n) ts r Q
end
section
structure Of where
 id:Str→Option Nat
 fn:Str→Option (Nat×Option Nat)
 fresh:Str→Bool
 cls:Str→Option (Nat×Nat)
 glob:Str→Option T
 mt:HF
noncomputable def CH (x:Str):Option Bi:=
 if x="len" then some .len else if x="sorted" then some .sorted else if x="tuple" then some .tuple else if x="list" then some .list
 else if x="dict" then some .dict else if x="set" then some .set else if x="abs" then some .abs else if x="int" then some .int
 else if x="range" then some .range else if x="all" then some .all else Option.none
noncomputable def HN (x:Str):Option BM:=if x="get" then some .get else if x="values" then some .values else if x="index" then some .index else Option.none
noncomputable abbrev I5 (o:Option SE):SE:=match o with | some d=>d | Option.none=>b5
noncomputable abbrev OG (o:Option SS):SS:=match o with | some d=>d | Option.none=>ua
noncomputable abbrev QM (c:Bool) (d:SE):SE:=match c with | true=>d | false=>b5
noncomputable def oT:Expr→Option Str | .Name x _=>some x | _=>Option.none
noncomputable def Fb:Expr→Option (List Expr) | .Tuple es _ _=>some es | _=>Option.none
noncomputable def Ah:Expr→Option (Expr×Str×Pos) | .Attribute o m p=>some (o,m,p) | _=>Option.none
noncomputable def K0:Expr→Option (Expr×Expr) | .Subscript o i _=>some (o,i) | _=>Option.none
noncomputable def Jo:Expr→Option (Expr×List Expr×List Keyword×Pos) | .Call f as ks p=>some (f,as,ks,p) | _=>Option.none
theorem mv {P:Prop} {e:Expr} {x:Str} (h:oT e=some x) (k:∀ p,e=.Name x p→P):P:=by
 cases e with
 | Name y p=>exact k p (aw (fun z=>Expr.Name z p) (az h))
 | _=>exact nn h
theorem C4 {P:Prop} {e:Expr} {x:List Expr} (h:Fb e=some x) (k:∀ a p,e=.Tuple x a p→P):P:=by
 cases e with
 | Tuple y a p=>exact k a p (aw (fun z=>Expr.Tuple z a p) (az h))
 | _=>exact nn h
theorem z6 {e:Expr} {x:Expr×Str×Pos} (h:Ah e=some x):e=.Attribute x.1 x.2.1 x.2.2:=by
 cases e with
 | Attribute y a p=>exact aw (fun x:Expr×Str×Pos=>Expr.Attribute x.1 x.2.1 x.2.2) (az h)
 | _=>exact nn h
theorem J8 {P:Prop} {e:Expr} {x:Expr×Expr} (h:K0 e=some x) (k:∀ p,e=.Subscript x.1 x.2 p→P):P:=by
 cases e with
 | Subscript y a p=>exact k p (aw (fun x:Expr×Expr=>Expr.Subscript x.1 x.2 p) (az h))
 | _=>exact nn h
theorem Al {e:Expr} {x:Expr×List Expr×List Keyword×Pos} (h:Jo e=some x):e=.Call x.1 x.2.1 x.2.2.1 x.2.2.2:=by
 cases e with
 | Call y a p q=>exact aw (fun x:Expr×List Expr×List Keyword×Pos=>Expr.Call x.1 x.2.1 x.2.2.1 x.2.2.2) (az h)
 | _=>exact nn h
noncomputable def HT (sc:Scope) (x:Str) (k:NameKind):Bool:=decide (sc.names.lookup x=some k)
theorem oN {sc:Scope} {x:Str} {k:NameKind} (h:HT sc x k=true):sc.names.lookup x=some k:=bI h
section
variable (tb:Of)
noncomputable def E5:Const→Option T
 | .none=>some .none
 | .bool b=>some (.bool b)
 | .int i=>some (.int i)
 | .str s=>(tb.id s).map .str
 | _=>Option.none
noncomputable def cR (sc:Scope) (x:Str):Bool:=HT sc x .local||HT sc x .cell||HT sc x .free
noncomputable def cw (sc:Scope) (x:Str):Bool:=HT sc x .globalImplicit
noncomputable def uU (sc:Scope) (x:Str):SE:=
 if cR sc x then I5 ((tb.id x).map ae)
 else if cw sc x then I5 ((tb.glob x).map ah) else b5
noncomputable def cu (sc:Scope) (x:Str):Bool:=HT sc x .local||HT sc x .cell
noncomputable def oP (sc:Scope) (e:Expr):Option Nat:=(oT e).bind fun x=>if cR sc x then tb.id x else Option.none
noncomputable def iN (sc:Scope):List Expr→Option (List Nat)
 | []=>some []
 | e::r=>(oT e).bind fun x=>if cu sc x then (tb.id x).bind fun i=>(iN sc r).map (i::·) else Option.none
noncomputable def eQ (sc:Scope) (e:Expr):Option m8:=match Fb e with
 | some es=>(iN tb sc es).map .many
 | Option.none=>(oT e).bind fun x=>if cu sc x then (tb.id x).map .one else Option.none
noncomputable def cZ (e:Expr):Bool:=!(e.ctorIdx==22)
noncomputable def tL (e:Expr):Bool:=!(e.ctorIdx==7)
noncomputable def gY (args:List Expr):Bool:=args.all cZ&&decide (args.length < 29)
noncomputable def many (args:List Expr):Bool:=args.all cZ&&decide (args.length < 1000)
noncomputable def fe:Expr→Bool
 | .Call (.Name _ _) [] [] _=>false
 | _=>true
noncomputable def mR (e:Expr):Bool:=e.ctorIdx==25
noncomputable def aX (sc:Scope):List Str:=(sc.names.filter fun p=>(p.2==.local||p.2==.cell)&&p.1 != (".0":Str)).map (·.1)
noncomputable def y8 (sc scope:Scope):Bool:=scope.kind==.function&&!(aX scope).isEmpty&&decide ((scope.names.map (·.1)).Nodup) &&
 scope.names.all fun p=>decide (p.2=.local)||decide (p.2=.globalImplicit)||(decide (p.2=.free)&&(HT sc p.1 .cell||HT sc p.1 .free)&&(tb.id p.1).isSome)
noncomputable def dO:List Str→Option (List Nat)
 | []=>some []
 | x::r=>(tb.id x).bind fun i=>(dO r).map (i::·)
noncomputable def Af (out sc:Scope) (t:Option m8) (o:ji) (ifs:SB) (elt:SE):SE:=I5 (if y8 tb out sc then t.bind fun g=>(dO tb (aX sc)).map fun vs=>aE vs o g ifs elt else Option.none)
noncomputable def zM (out sc:Scope) (t:Option m8) (o:ji) (ifs:SB) (k v:SE):SE:=I5 (if y8 tb out sc then t.bind fun g=>(dO tb (aX sc)).map fun vs=>oi vs o g ifs k v else Option.none)
noncomputable def Ay (sc:Scope) (args:List Expr) (p:Nat):Option Nat:=(args[p]?).bind (oP tb sc)
noncomputable def QA (sc:Scope) (f:Str) (args:List Expr) (first:Option SE) (opd:Option ji):Option SE:=
 if f="isinstance" then first.bind fun s=>(two args).bind fun p=>(oT p.2).bind fun c=>if cw sc c then (tb.cls c).map fun c=>qc s c.1 else Option.none
 else (CH f).bind fun b=>opd.map fun o=>bW b o
noncomputable def Qs (sc:Scope) (args:List Expr) (all:sE) (but:Nat→sE) (i:Nat) (r:Option Nat):Option SE:=match r with
 | Option.none=>some (aK i all Option.none)
 | some p=>(Ay tb sc args p).map fun x=>aK i (but p) (some x)
noncomputable def Gg (sc:Scope) (f:Str) (args:List Expr) (all:sE) (but:Nat→sE) (first:Option SE) (opd:Option ji):Option SE:=match tb.cls f with
 | some c=>some (dE c.1 c.2 all)
 | Option.none=>match tb.fn f with
  | some p=>Qs tb sc args all but p.1 p.2
  | Option.none=>QA tb sc f args first opd
noncomputable def Fq (sc:Scope) (f:Str) (args:List Expr) (all:sE) (but:Nat→sE) (first:Option SE) (opd:Option ji):SE:=
 I5 (if cw sc f&&gY args&&f != ("__debug__":Str) then Gg tb sc f args all but first opd else Option.none)
noncomputable def yU (m:Str) (ob:Expr) (ap p:Pos) (args:List Expr) (o:SE) (od:ji) (ss:sE):SE:=if fe ob&&gY args&&ap.endLine==p.line then (match HN m with
 | some .values=>Aq .values (.e o) ss
 | some b=>Aq b od ss
 | Option.none=>match tb.id m with | some i=>cy tb.mt o i ss | Option.none=>b5) else b5
noncomputable def bf (sc:Scope) (e:Expr) (s:SE):ji:=match oP tb sc e with
 | some i=>.v i
 | Option.none=>.e s
noncomputable def xz (op:BoolOp):List SE→SE
 | [a,b]=>(match op with | .And=>LB a b | .Or=>O0 a b)
 | _=>b5
noncomputable def ER (op:BoolOp) (a r:SB):SB:=match op with | .And=>bB a r | .Or=>vM a r
noncomputable def EX (ops:List CmpOp) (l:SE) (rs:List SE) (ro:List ji):SB:=match ops,rs,ro with
 | [op],_,[o]=>aD op l o
 | [op,op'],[m,r],_=>nj op op' l m r
 | _,_,_=>Ao
noncomputable def Jl (ops:List CmpOp) (l:SE) (ro:List ji):SE:=match ops,ro with
 | [op],[o]=>gV op l o
 | _,_=>b5
noncomputable def dictOf (ks vs:List SE):SE:=match ks,vs with
 | [],[]=>dN
 | [k],[v]=>rX k v
 | _,_=>b5
noncomputable def kE:List SE→sE
 | []=>ak
 | s::r=>aa s (kE r)
noncomputable def DR (o:SE) (od:ji) (i:SE) (lo hi:Option SE) (sl:Bool):SE:=match sl,lo,hi with
 | false,_,_=>aZ od i
 | true,Option.none,some h=>u7 o h
 | true,some l,some h=>Ks o l h
 | _,_,_=>b5
noncomputable def yX (n:Str) (ob:Expr) (od:ji):SE:=if fe ob then (match tb.id n with | some i=>aq od i | Option.none=>b5) else b5
mutual
noncomputable def bA (sc:Scope):Expr→SE
 | .Constant c _ _=>(match E5 tb c with | some t=>ah t | Option.none=>b5)
 | .Name x _=>uU tb sc x
 | .BinOp l op r _=>cx op (bA sc l) (bA sc r)
 | .UnaryOp op x _=>(match op with | .USub=>sK (bA sc x) | _=>b5)
 | .BoolOp op vs _=>xz op (fm sc vs)
 | .IfExp t b o _=>iX (jV sc t (bf tb sc t (bA sc t))) (bA sc b) (bA sc o)
 | .Dict ks vs _=>dictOf (AF sc ks) (fm sc vs)
 | .List es _=>if many es then bM (kE (fm sc es)) else b5
 | .Tuple es _ _=>if many es then aO (kE (fm sc es)) else b5
 | .ListComp elt gs scope _=>(match gs with
  | [g]=>(match g with | ⟨tgt,iter,ifs,a⟩=>if a=0 then Af tb sc scope (eQ tb scope tgt) (bf tb sc iter (bA sc iter)) (hB scope .And ifs) (bA scope elt) else b5)
  | _=>b5)
 | .DictComp k v gs scope _=>(match gs with
  | [g]=>(match g with | ⟨tgt,iter,ifs,a⟩=>if a=0 then zM tb sc scope (eQ tb scope tgt) (bf tb sc iter (bA sc iter)) (hB scope .And ifs) (bA scope k) (bA scope v) else b5)
  | _=>b5)
 | .Compare l ops rs _=>if rs.all tL then Jl ops (bA sc l) (oX sc rs) else b5
 | .Call f args ks p=>(match ks with
  | []=>(match f with
   | .Name x _=>Fq tb sc x args (kE (fm sc args)) (fun p=>kE ((fm sc args).eraseIdx p)) (fm sc args)[0]? (match args with | [_]=>(oX sc args)[0]? | _=>Option.none)
   | .Attribute o m ap=>yU tb m o ap p args (bA sc o) (bf tb sc o (bA sc o)) (kE (fm sc args))
   | _=>b5)
  | _=>b5)
 | .Attribute v n _=>yX tb n v (bf tb sc v (bA sc v))
 | .Subscript v s _=>(match s with
  | .Slice lo hi st _=>(match st with
   | Option.none=>DR (bA sc v) (bf tb sc v (bA sc v)) b5 (match lo with | some l=>some (bA sc l) | Option.none=>Option.none) (match hi with | some h=>some (bA sc h) | Option.none=>Option.none) true
   | some _=>b5)
  | s=>DR (bA sc v) (bf tb sc v (bA sc v)) (bA sc s) Option.none Option.none false)
 | _=>b5
noncomputable def fm (sc:Scope):List Expr→List SE
 | []=>[]
 | e::r=>bA sc e::fm sc r
noncomputable def oX (sc:Scope):List Expr→List ji
 | []=>[]
 | e::r=>bf tb sc e (bA sc e)::oX sc r
noncomputable def AF (sc:Scope):List (Option Expr)→List SE
 | []=>[]
 | e::r=>(match e with | some e=>bA sc e | Option.none=>b5)::AF sc r
noncomputable def jV (sc:Scope):Expr→ji→SB
 | .UnaryOp op x _,whole=>(match op with | .Not=>rF (jV sc x (bf tb sc x (bA sc x))) | _=>cQ whole)
 | .BoolOp op vs _,_=>hB sc op vs
 | .IfExp t b o _,_=>JD (jV sc t (bf tb sc t (bA sc t))) (jV sc b (bf tb sc b (bA sc b))) (jV sc o (bf tb sc o (bA sc o)))
 | .Compare l ops rs _,_=>if rs.all tL then EX ops (bA sc l) (fm sc rs) (oX sc rs) else Ao
 | _,whole=>cQ whole
noncomputable def hB (sc:Scope) (op:BoolOp):List Expr→SB
 | []=>(match op with | .And=>aH | .Or=>nz)
 | e::r=>ER op (jV sc e (bf tb sc e (bA sc e))) (hB sc op r)
end
noncomputable def Jm (e:Expr):Bool:=match e with
 | .List _ _=>true
 | .Dict _ _ _=>true
 | .ListComp _ _ _ _=>true
 | .Call (.Name f _) _ _ _=>f="dict"||tb.fresh f
 | _=>false
noncomputable def DH (ow:List Str) (x:Str) (e:Expr) (s:SE):Option SS:=(tb.id x).bind fun i=>if ow.contains x then (if Jm tb e then some (ii i s) else Option.none) else some (ay i s)
noncomputable def wD (sc:Scope) (o:Expr) (m:Str) (ap p:Pos) (args:List Expr) (ss:List SE):Option SS:=if gY args&&ap.endLine==p.line then (one ss).bind fun s=>(oP tb sc o).bind fun i=>if m="append" then some (j8 i s) else if m="extend" then some (mF i s) else Option.none else Option.none
noncomputable def Oc (sc:Scope) (v:Expr):Option SS:=(Jo v).bind fun c=>if c.2.2.1.isEmpty then (match Ah c.1 with
 | some a=>wD tb sc a.1 a.2.1 a.2.2 c.2.2.2 c.2.1 (fm tb sc c.2.1)
 | Option.none=>(oT c.1).map fun _=>EG (bA tb sc v)) else Option.none
noncomputable def NK (sc:Scope) (ow:List Str) (t v:Expr):Option SS:=match oT t with
 | some x=>if cu sc x then DH tb ow x v (bA tb sc v) else Option.none
 | Option.none=>match Fb t with
  | some es=>if mR v then Option.none else (iN tb sc es).map fun xs=>vY xs (bA tb sc v)
  | Option.none=>match K0 t with
   | some p=>(oP tb sc p.1).map fun j=>bG j (bA tb sc p.2) (bA tb sc v)
   | Option.none=>(Ah t).bind fun a=>(oP tb sc a.1).bind fun j=>(tb.id a.2.1).map fun k=>aF j k (bA tb sc v)
mutual
noncomputable def JF (sc:Scope) (ow:List Str):Stmt→SS
 | .Expr v _=>OG (Oc tb sc v)
 | .Return v _=>OG (v.map fun e=>aR (bA tb sc e))
 | .Assign ts v _=>OG ((one ts).bind fun t=>NK tb sc ow t v)
 | .If t b o _=>fq (jV tb sc t (bf tb sc t (bA tb sc t))) (iC sc ow b) (iC sc ow o)
 | .While t b o _=>(match o with | []=>rG (jV tb sc t (bf tb sc t (bA tb sc t))) (iC sc ow b) | _=>ua)
 | .For t i b o _=>(match o with | []=>OG ((eQ tb sc t).map fun g=>fI (bf tb sc i (bA tb sc i)) g (iC sc ow b)) | _=>ua)
 | .Continue _=>C7
 | .Pass _=>aj
 | _=>ua
noncomputable def iC (sc:Scope) (ow:List Str):List Stmt→SS
 | []=>aj
 | s::r=>ai (JF sc ow s) (iC sc ow r)
end
end
end
section
noncomputable def mX:List Str:=[Str.ofString "self",Str.ofString "codes",Str.ofString "code",Str.ofString "variations",Str.ofString "rows",Str.ofString "told",Str.ofString "classes",Str.ofString "glyph",Str.ofString "sets",Str.ofString "first",Str.ofString "row",Str.ofString "pairs",Str.ofString "is_second",Str.ofString "key",Str.ofString "glyphs",Str.ofString "mapping",Str.ofString "single",Str.ofString "x_offset",Str.ofString "y_offset",Str.ofString "x_advance",Str.ofString "y_advance",Str.ofString "kind",Str.ofString "flag",Str.ofString "mark_set",Str.ofString "tables",Str.ofString "held",Str.ofString "table",Str.ofString "charmap",Str.ofString "metrics",Str.ofString "gdef",Str.ofString "gsub",Str.ofString "gpos",Str.ofString "kern",Str.ofString "pair",Str.ofString "attach",Str.ofString "points",Str.ofString "carets",Str.ofString "one",Str.ofString "required",Str.ofString "features",Str.ofString "tag",Str.ofString "default",Str.ofString "languages",Str.ofString "rest",Str.ofString "lookups",Str.ofString "scripts",Str.ofString "feature",Str.ofString "lookup",Str.ofString "units",Str.ofString "ascent",Str.ofString "descent",Str.ofString "advances",Str.ofString "bearings",Str.ofString "classdef",Str.ofString "found",Str.ofString "layout",Str.ofString "number",Str.ofString "ligature",Str.ofString "other",Str.ofString "reverse",Str.ofString "steps",Str.ofString "context",Str.ofString "chain",Str.ofString "made",Str.ofString "line",Str.ofString "seen",Str.ofString "at",Str.ofString "begun",Str.ofString "known",Str.ofString "font",Str.ofString "lead",Str.ofString "is_nothing",Str.ofString "numbers",Str.ofString "coverage",Str.ofString "firsts",Str.ofString "multiple",Str.ofString "alternate",Str.ofString "adjust",Str.ofString "cursive",Str.ofString "rules",Str.ofString "values",Str.ofString "ends",Str.ofString "base",Str.ofString "component",Str.ofString "mark",Str.ofString "marks",Str.ofString "count",Str.ofString "k",Str.ofString "mirrors",Str.ofString "defaults",Str.ofString "selector",Str.ofString "others",Str.ofString "kept",Str.ofString "places",Str.ofString "wanted",Str.ofString "layouts",Str.ofString "pen",Str.ofString "digit",Str.ofString "many",Str.ofString "seat",Str.ofString "cell",Str.ofString "great",Str.ofString "blend",Str.ofString "DFLT",Str.ofString "named",Str.ofString "lap",Str.ofString "step",Str.ofString "second",Str.ofString "body",Str.ofString "three",Str.ofString "lefts",Str.ofString "live",Str.ofString "due",Str.ofString "cut",Str.ofString "liga",Str.ofString "script",Str.ofString "before",Str.ofString "chosen",Str.ofString "left"]
noncomputable def H8:List (Nat×Nat):=[(141054563233735966835,0),(177179548526400721163059299,1),(139671666743203266659,2),(304129033110592094247269292428996170570858033363142377590,3),(159032102174981030002,4),(138288790112588202100,5),(219923325901453640369206977448309948515,6),(160231968108595703624499303,7),(159032098451233243251,8),(178720258398610242166915174,9),(147708343943282,10),(177179566503932214908092528,11),(237372959675217451199773179539798805209515011801193,12),(150190823899243,13),(197397865789933490248444122234983,14),(196974838476779093410215825758506516589,15),(173366846928235131871376027746419,16),(247149816669473568052363895123947724320211064,17),(247149816669473568052363895123947724320211065,18),(239746663491703137280559685812076491247187236159608,19),(239746663491703137280559685812076491247187236159609,20),(138288792595072614507,21),(142437436140622184550,22),(247149816669473568041579068455922182732709997,23),(197397861167856423332766762991732,24),(138288790112577060968,25),(155609891041680026265256052,26),(214186193317143439583768881504511852643,27),(219923322468434658541569239295209046125,28),(141054554545016012903,29),(135523028162643689575,30),(159032092245017755751,31),(152117663165844881515,32),(157649198236948299888,33),(178516338424393934145133252706401,34),(197397884278216865819008564134000,35),(197397884278204419851134543396963,36),(125365922955375,37),(213060213425419853261199473973836666023247986,38),(245019216466718601680311870788746970804846694,39),(127848399569012,40),(221835713156400502882221799986297110628,41),(272978849296147758593291840821417965454330317308012,42),(160414983770567147634,43),(219923344782976383805421360150692692076,44),(219923351648975830192370833719102210163,45),(193150094863942193678355939259283996774,46),(192248380456521523338737398775916,47),(177179569269705336081481845,48),(199114376821521917686853904040033,49),(221835716589379426757936176737853702244,50),(245019216466692854142715102403424655922954337,51),(245019220291462214517211605414387972507500642,52),(217321413830902322038331809973868179166593123,53),(154069203295696435644661862,54),(199114387606369329041835304222828,55),(195681359380382025944703904841838,56),(215190838489056365283380492200041894708314220,57),(175638858014625390690304111,58),(193150096580439359046645862141154099314,59),(177179563738154128788160627,60),(221835733754397301387130603169357168739,61),(169476101499041762433826915,62),(139671666743187669101,63),(139671679155652067436,64),(152117647029652750451,65),(129237089,66),(169476118093687936857210978,67),(169476120859470987990532203,68),(160414977564350546022,69),(138288776458876026988,70),(272393856901846327248369742777054100858643950397064151145,71),(219923348215955307665923966117198757998,72),(215190817452894401500591643399252335610757219,73),(197397884278223780262982664650854,74),(215190827014796346169882022581862613351989357,75),(239746699711881723230009783764169136992135301300321,76),(199114384524996602781989180014689,77),(193150101729930855233105854697518202979,78),(177179548526410651134132338,79),(197397861167868869324224433553526,80),(159032078591314493541,81),(139671685361870897250,82),(275352595724635587389584274699638769670449545543779,83),(147969003484102066285,84),(177179556823737462061858925,85),(178720251484181163012980835,86),(107,87),(219923348215970714593167960247289577581,88),(245019245152336894138621074654607697817960548,89),(242888635387721179075468730201336131458760819,90),(197397881196823396278131188039791,91),(160414980046830501995,92),(197397861167843977352480314622064,93),(171650334355958958398484541145207,94),(219923351648983533653227063248598138988,95),(136537122865264,96),(178720244569730982671351908,97),(167329410367232213101,98),(160414961428147273843,99),(149351882597212684387,100),(178720233506636015554658407,101),(154069203295676575712542818,102),(116162565423413723204,103),(154069190849707460449599598,104),(139019609505900,105),(154883420150828367987,106),(171650348222166649974687091982451,107),(167329397954792325218,108),(155609881361493962145661044,109),(177179569269701612334809196,110),(139671689085616455788,111),(125365930754148,112),(143984613982307,113),(134140124224615415916,114),(199114379902908472812305808294003,115),(173366856172389265635703457644642,116),(188815352230563260874273084407907,117),(160414967634375016556,118)]
noncomputable def lA (l:List Nat):Nat:=l.foldr (fun c n=>c+1114112*n) 0
noncomputable def JE:List (Nat×Nat)→Nat→Option Nat
 | [],_=>none
 | (c,i)::r,n=>match Nat.beq c n with | true=>some i | false=>JE r n
noncomputable def Ma (x:Str):Option Nat:=match JE H8 (lA x.cps.toList) with
 | some i=>(match mX[i]? with | some y=>if y=x then some i else none | none=>none)
 | none=>none
noncomputable def qs:List (Nat×(Nat×Option Nat)):=[(468568682755806180050200052463587409626814930447540583027919873730745601261633652,(30,none)),(420575959135869971336362577204480015239457129556019433485141786165930688622,(31,none)),(510804357936724759527957157494121707808302310218132003154190506097445808204987198167298670701,(32,some 2)),(231397572188505077755326121416957427821,(33,some 3)),(329994646376471711014590341138422864879294422698044971940773990,(34,some 2)),(285616842241346852664783293904201996126703614674639716454,(35,some 1)),(269749261258157859047452938425143252575974380342537355363,(36,none)),(193150094863942193676973070076150022243,(37,none)),(306423658954573246541538774622134342841201861516503712802340962,(38,none)),(272978887646966707182885868213451301070784236683372,(39,none)),(237372955414017045722453913932602409240386847441008,(40,none)),(328259875779826634853452886168460434648502404147660787314460618326125,(41,none)),(314707427553903400250506069165807258496233148503076175988,(42,none)),(338833834427462433376312060674600329136964805104835189528658036,(43,none)),(267104656119598729313819202597995347589523910559764119651,(44,none)),(331542483082135153754743555650483482835798653403714387053742924300387,(45,none)),(242888623913437128973922350334218099392577635,(46,none)),(556321518218731129967299226183027568092559813723305150259820613127988820606364921780282654819,(47,none)),(361085833893980212176286183260192154402140891039569100297748466696291,(48,none)),(264460041486136978987055994812793943799949601933649838194,(49,none)),(193150084564905277161032702922884055145,(50,none)),(294638124252382042544333637177036274725103173449535604170752108,(51,none)),(193150069116404596909970616944402104417,(52,none)),(196974838476779093412981580260986650722,(53,none)),(304129042605488322990068744979143733284422510809555337324,(54,none)),(272978887646966707182885868213451301048441816809587,(55,none)),(377498820317010900454794525625906909082357574977750335610316356386925,(56,none)),(331542465403814588215351485918370709819844480830292429529336155537517,(57,none)),(377498782014078654878691310613708094083419807840343869487272321679479,(58,none)),(468568715670404557146897808519463698648164716212903562974610350866148776296644707,(59,none)),(377498790853245549144617734560628247618996869716416003402270020010086,(60,none)),(269749261258157859074226191777156366564925276383586091118,(61,none)),(329994635798063025344026984035626254384775527254819015057801315,(62,none)),(338833776246315545623102435989201646447323513693829142768058467,(63,none)),(217321413830902322019843496174797005726744675,(64,none)),(296195255674491097637791075009419605820156947550976671843,(65,none)),(367651042605814031195464645524534488593308940724014361798599163969645,(66,none)),(306773647744077281189649368010004810733969564736942309475,(67,none)),(234366240313808150281289372965556385877393507,(68,none)),(338833789469322248700864665815131914582193594285324863861489771,(69,none)),(199114362955326672074801628381299,(70,none)),(282473749786127298693906450942179705085833627041887,(71,some 0)),(341780202235449427900762636692362479696444303856839127131226207,(72,none)),(272978887646966707182885868213476193002808513658975,(73,some 0)),(329994688690018625771434690160894495879506701298548578657763423,(74,none)),(294638105740205415681786039472884422251567166094195823062286431,(75,none)),(275352578679833965360152099474152694196167169015903,(76,none)),(522037988207904061729006992030642226178711673392017733671959608779118539385624851120223,(77,none)),(147708328345708,(78,none))]
noncomputable def qd:List (Nat×(Nat×Nat)):=[(214186193317094137487391912049775214659,(0,0)),(217321413830847393981133071780712633984614467,(1,3)),(215190838489056365283380492200041894708314188,(2,5)),(304129018868230706339097564531283198237042559997759782992,(3,7)),(173366846928235131871376027746387,(4,9)),(155609903487671483935817814,(5,11)),(192248380456521523338737398775884,(6,14)),(160414977564350545990,(7,16)),(141054554545016012871,(8,18)),(219923360231440087467606107618538487884,(9,20)),(199114379902908472812305808293971,(10,22)),(193150094863942193678355939259283996742,(11,24)),(199114387606369329041835304222796,(12,26)),(219923322468434658541569239295209046093,(13,28)),(338833781535535317686594464106065258876899738962881505502756944,(14,1000))]
noncomputable def iL:List (Nat×Str):=[(30,Str.ofString "turned_classes"),(31,Str.ofString "named_lookups"),(32,Str.ofString "made_by_ligature"),(33,Str.ofString "made_by"),(34,Str.ofString "follow_step"),(35,Str.ofString "follow_all"),(36,Str.ofString "closure_of"),(37,Str.ofString "closure"),(38,Str.ofString "begins_with"),(39,Str.ofString "live_rows"),(40,Str.ofString "pair_told"),(41,Str.ofString "moves_second"),(42,Str.ofString "turned_row"),(43,Str.ofString "turned_keys"),(44,Str.ofString "cut_single"),(45,Str.ofString "cut_ligature"),(46,Str.ofString "cut_pair"),(47,Str.ofString "cut_substitution"),(48,Str.ofString "cut_position"),(49,Str.ofString "renumbered"),(50,Str.ofString "is_idle"),(51,Str.ofString "layout_told"),(52,Str.ofString "advance"),(53,Str.ofString "bearing"),(54,Str.ofString "lone_pairs"),(55,Str.ofString "side_rows"),(56,Str.ofString "mirror_pairs"),(57,Str.ofString "mirror_table"),(58,Str.ofString "wanted_codes"),(59,Str.ofString "cut_variations"),(60,Str.ofString "first_glyphs"),(61,Str.ofString "numbers_of"),(62,Str.ofString "cut_charmap"),(63,Str.ofString "cut_metrics"),(64,Str.ofString "cut_gdef"),(65,Str.ofString "cut_lookup"),(66,Str.ofString "moved_lookup"),(67,Str.ofString "cut_layout"),(68,Str.ofString "cut_kern"),(69,Str.ofString "kept_glyphs"),(70,Str.ofString "subset"),(71,Str.ofString "_law_draw"),(72,Str.ofString "_law_layout"),(73,Str.ofString "_law_rows"),(74,Str.ofString "_law_lookup"),(75,Str.ofString "_law_closed"),(76,Str.ofString "_law_left"),(77,Str.ofString "_law_gsub_holds"),(78,Str.ofString "law")]
noncomputable def jp:List (Nat×Str):=[(0,Str.ofString "CharMap"),(1,Str.ofString "ClassDef"),(2,Str.ofString "Ligature"),(3,Str.ofString "PairGlyphs"),(4,Str.ofString "Single"),(5,Str.ofString "Value"),(6,Str.ofString "Lookup"),(7,Str.ofString "Font"),(8,Str.ofString "Gdef"),(9,Str.ofString "LangSys"),(10,Str.ofString "Script"),(11,Str.ofString "Feature"),(12,Str.ofString "Layout"),(13,Str.ofString "Metrics"),(14,Str.ofString "PairClasses")]
noncomputable def dz {α:Type}:List (Nat×α)→Nat→Option α
 | [],_=>none
 | (c,i)::r,n=>match Nat.beq c n with | true=>some i | false=>dz r n
theorem dU {α:Type} {l:List (Nat×α)} {n:Nat} {x:α} (h:dz l n=some x):(n,x)∈l:=by
 induction l with
 | nil=>exact nn h
 | cons p l ih=>
  replace h:(match Nat.beq p.1 n with | true=>some p.2 | false=>dz l n)=some x:=h
  cases e:Nat.beq p.1 n with
  | true=>rw [e] at h;rw [← az h,← Nat.eq_of_beq_eq_true e];exact .head _
  | false=>rw [e] at h;exact .tail _ (ih h)
noncomputable def sw (x:Str):Option T:=if x="BLANK" then some (.int 32) else if x="USE_SET" then some (.int 16) else if x="CONTEXT_KINDS" then some (.tup [.str 61,.str 62]) else none
noncomputable def xh:List (Nat×List (Nat×Nat)):=[(0,[(7,1),(5,2)]),(1,[(5,4)]),(2,[(5,6)]),(3,[(5,8)]),(4,[(5,10)]),(5,[(5,12),(71,13)]),(6,[(5,15)]),(7,[(5,17)]),(8,[(5,19)]),(9,[(5,21)]),(10,[(5,23)]),(11,[(5,25)]),(12,[(5,27)]),(13,[(5,29)])]
noncomputable def mt:HF:=fun c m=>(dz xh c).bind fun l=>dz l m
noncomputable def tb:Of:={
 id:=Ma
 fn:=fun x=>(dz qs (lA x.cps.toList)).bind fun p=>if dz iL p.1=some x then some p else none
 fresh:=fun x=>x="lone_pairs"
 cls:=fun x=>(dz qd (lA x.cps.toList)).bind fun p=>if dz jp p.1=some x then some p else none
 glob:=sw
 mt:=mt }
noncomputable def rH:SS:=
  (ai (aF 0 1 (oi [2] (.v 1) (.one 2) (bB (aD .NotEq (aZ (.v 1) (ae 2)) (.e (ah (.int 0)))) aH) (ae 2) (aZ (.v 1) (ae 2))))
  (ai (aF 0 3 (ae 3))
  aj))
noncomputable def gR:aG:=⟨[0,1,3],some 0,[.none],[],false,rH⟩
noncomputable def pH:SS:=
  (ai (aR (Aq .get (.e (aq (.v 0) 1)) (aa (ae 2) (aa (ah (.int 0)) ak))))
  aj)
noncomputable def i5:aG:=⟨[0,2],none,[],[],false,pH⟩
noncomputable def qH:SS:=
  (ai (ay 4 (bW .tuple (.e (aE [2] (.e (bW .sorted (.e (aq (.v 0) 1)))) (.one 2) aH (aO (aa (ae 2) (aa (aZ (.e (aq (.v 0) 1)) (ae 2)) ak)))))))
  (ai (aR (aO (aa (ae 4) (aa (iX (aD .Is (aq (.v 0) 3) (.e (ah .none))) (ah .none) (cy mt (aq (.v 0) 3) 5 ak)) ak))))
  aj))
noncomputable def jn:aG:=⟨[0],none,[],[4],false,qH⟩
noncomputable def pL:SS:=
  (ai (aF 0 6 (ae 6))
  aj)
noncomputable def jc:aG:=⟨[0,6],some 0,[],[],false,pL⟩
noncomputable def pJ:SS:=
  (ai (aR (bW .tuple (.e (aE [7] (.e (bW .sorted (.e (aq (.v 0) 6)))) (.one 7) aH (aO (aa (ae 7) (aa (aZ (.e (aq (.v 0) 6)) (ae 7)) ak)))))))
  aj)
noncomputable def i9:aG:=⟨[0],none,[],[],false,pJ⟩
noncomputable def pM:SS:=
  (ai (aF 0 8 (ae 8))
  aj)
noncomputable def jf:aG:=⟨[0,8],some 0,[],[],false,pM⟩
noncomputable def pr:SS:=
  (ai (ay 4 (aE [9] (.e (bW .sorted (.e (aq (.v 0) 8)))) (.one 9) aH (aO (aa (ae 9) (aa (bW .tuple (.e (bW .sorted (.e (aK 39 (aa (aZ (.e (aq (.v 0) 8)) (ae 9)) ak) none))))) ak)))))
  (ai (aR (bW .tuple (.e (aE [10] (.v 4) (.one 10) (bB (aD .NotEq (aZ (.v 10) (ah (.int 1))) (.e (aO ak))) aH) (ae 10)))))
  aj))
noncomputable def jd:aG:=⟨[0],none,[],[4],false,pr⟩
noncomputable def mq:SS:=
  (ai (aF 0 11 (ae 11))
  (ai (aF 0 12 (O0 (ae 12) (aK 41 (aa (Aq .values (.e (ae 11)) ak) ak) none)))
  aj))
noncomputable def eS:aG:=⟨[0,11,12],some 0,[(.bool false)],[],false,mq⟩
noncomputable def ma:SS:=
  (ai (ay 4 (bW .tuple (.e (aE [13] (.e (bW .sorted (.e (aq (.v 0) 11)))) (.one 13) aH (aO (aa (ae 13) (aa (aK 40 (aa (aZ (.e (aq (.v 0) 11)) (ae 13)) ak) none) ak)))))))
  (ai (aR (aO (aa (ah (.str 14)) (aa (aq (.v 0) 12) (aa (ae 4) ak)))))
  aj))
noncomputable def hW:aG:=⟨[0],none,[],[4],false,ma⟩
noncomputable def sY:SS:=
  (ai (aF 0 15 (ae 15))
  aj)
noncomputable def k9:aG:=⟨[0,15],some 0,[],[],false,sY⟩
noncomputable def s6:SS:=
  (ai (aR (cx .Add (aO (aa (ah (.str 16)) ak)) (bW .tuple (.e (aE [7] (.e (bW .sorted (.e (aq (.v 0) 15)))) (.one 7) aH (aO (aa (ae 7) (aa (aZ (.e (aq (.v 0) 15)) (ae 7)) ak))))))))
  aj)
noncomputable def kT:aG:=⟨[0],none,[],[],false,s6⟩
noncomputable def uy:SS:=
  (ai (aF 0 17 (ae 17))
  (ai (aF 0 18 (ae 18))
  (ai (aF 0 19 (ae 19))
  (ai (aF 0 20 (ae 20))
  aj))))
noncomputable def mV:aG:=⟨[0,17,18,19,20],some 0,[],[],false,uy⟩
noncomputable def vJ:SS:=
  (ai (aR (aO (aa (aq (.v 0) 17) (aa (aq (.v 0) 18) (aa (aq (.v 0) 19) (aa (aq (.v 0) 20) ak))))))
  aj)
noncomputable def mQ:aG:=⟨[0],none,[],[],false,vJ⟩
noncomputable def lH:SS:=
  (ai (aR (gV .Eq (cy mt (ae 0) 5 ak) (.e (aO (aa (ah (.int 0)) (aa (ah (.int 0)) (aa (ah (.int 0)) (aa (ah (.int 0)) ak))))))))
  aj)
noncomputable def gM:aG:=⟨[0],none,[],[],false,lH⟩
noncomputable def tC:SS:=
  (ai (aF 0 21 (ae 21))
  (ai (aF 0 22 (ae 22))
  (ai (aF 0 23 (ae 23))
  (ai (aF 0 24 (ae 24))
  aj))))
noncomputable def kZ:aG:=⟨[0,21,22,23,24],some 0,[],[],false,tC⟩
noncomputable def sZ:SS:=
  (ai (ay 25 (iX (cQ (.e (cx .BitAnd (aq (.v 0) 22) (ah (.int 16))))) (aq (.v 0) 23) (sK (ah (.int 1)))))
  (ai (aR (aO (aa (aq (.v 0) 21) (aa (aq (.v 0) 22) (aa (ae 25) (aa (bW .tuple (.e (aE [26] (.e (aq (.v 0) 24)) (.one 26) aH (cy mt (ae 26) 5 ak)))) ak))))))
  aj))
noncomputable def k6:aG:=⟨[0],none,[],[25],false,sZ⟩
noncomputable def xa:SS:=
  (ai (aF 0 27 (ae 27))
  (ai (aF 0 28 (ae 28))
  (ai (aF 0 29 (ae 29))
  (ai (aF 0 30 (ae 30))
  (ai (aF 0 31 (ae 31))
  (ai (aF 0 32 (ae 32))
  aj))))))
noncomputable def oS:aG:=⟨[0,27,28,29,30,31,32],some 0,[],[],false,xa⟩
noncomputable def xN:SS:=
  (ai (aR (aO (aa (cy mt (aq (.v 0) 27) 5 ak) (aa (cy mt (aq (.v 0) 28) 5 ak) (aa (cy mt (aq (.v 0) 29) 5 ak) (aa (aK 51 (aa (aq (.v 0) 30) ak) none) (aa (aK 51 (aa (aq (.v 0) 31) ak) none) (aa (bW .tuple (.e (aE [33] (.e (bW .sorted (.e (aq (.v 0) 32)))) (.one 33) aH (aO (aa (ae 33) (aa (aZ (.e (aq (.v 0) 32)) (ae 33)) ak)))))) ak))))))))
  aj)
noncomputable def oY:aG:=⟨[0],none,[],[],false,xN⟩
noncomputable def xV:SS:=
  (ai (aF 0 6 (ae 6))
  (ai (aF 0 34 (ae 34))
  (ai (aF 0 8 (ae 8))
  (ai (aF 0 35 (iX (aD .Is (ae 35) (.e (ah .none))) dN (ae 35)))
  (ai (aF 0 36 (iX (aD .Is (ae 36) (.e (ah .none))) dN (ae 36)))
  aj)))))
noncomputable def jT:aG:=⟨[0,6,34,8,35,36],some 0,[.none,.none],[],false,xV⟩
noncomputable def xn:SS:=
  (ai (ay 35 (bW .tuple (.e (aE [7] (.e (bW .sorted (.e (aq (.v 0) 35)))) (.one 7) aH (aO (aa (ae 7) (aa (aZ (.e (aq (.v 0) 35)) (ae 7)) ak)))))))
  (ai (ay 36 (bW .tuple (.e (aE [7] (.e (bW .sorted (.e (aq (.v 0) 36)))) (.one 7) aH (aO (aa (ae 7) (aa (aZ (.e (aq (.v 0) 36)) (ae 7)) ak)))))))
  (ai (aR (aO (aa (cy mt (aq (.v 0) 6) 5 ak) (aa (cy mt (aq (.v 0) 34) 5 ak) (aa (bW .tuple (.e (aE [37] (.e (aq (.v 0) 8)) (.one 37) aH (cy mt (ae 37) 5 ak)))) (aa (ae 35) (aa (ae 36) ak)))))))
  aj)))
noncomputable def oU:aG:=⟨[0],none,[],[35,36],false,xn⟩
noncomputable def r9:SS:=
  (ai (aF 0 38 (ae 38))
  (ai (aF 0 39 (bW .list (.v 39)))
  aj))
noncomputable def jy:aG:=⟨[0,38,39],some 0,[],[],false,r9⟩
noncomputable def rO:SS:=
  (ai (aR (aO (aa (aq (.v 0) 38) (aa (bW .tuple (.e (aq (.v 0) 39))) ak))))
  aj)
noncomputable def jE:aG:=⟨[0],none,[],[],false,rO⟩
noncomputable def sP:SS:=
  (ai (aF 0 40 (ae 40))
  (ai (aF 0 41 (ae 41))
  (ai (aF 0 42 (ae 42))
  aj)))
noncomputable def kM:aG:=⟨[0,40,41,42],some 0,[],[],false,sP⟩
noncomputable def ty:SS:=
  (ai (ay 43 (bW .tuple (.e (aE [40] (.e (bW .sorted (.e (aq (.v 0) 42)))) (.one 40) aH (aO (aa (ae 40) (aa (cy mt (aZ (.e (aq (.v 0) 42)) (ae 40)) 5 ak) ak)))))))
  (ai (aR (aO (aa (aq (.v 0) 40) (aa (iX (aD .Is (aq (.v 0) 41) (.e (ah .none))) (ah .none) (cy mt (aq (.v 0) 41) 5 ak)) (aa (ae 43) ak)))))
  aj))
noncomputable def k5:aG:=⟨[0],none,[],[43],false,ty⟩
noncomputable def qV:SS:=
  (ai (aF 0 40 (ae 40))
  (ai (aF 0 44 (bW .list (.v 44)))
  aj))
noncomputable def j4:aG:=⟨[0,40,44],some 0,[],[],false,qV⟩
noncomputable def qk:SS:=
  (ai (aR (aO (aa (aq (.v 0) 40) (aa (bW .tuple (.e (aq (.v 0) 44))) ak))))
  aj)
noncomputable def j3:aG:=⟨[0],none,[],[],false,qk⟩
noncomputable def sR:SS:=
  (ai (aF 0 45 (ae 45))
  (ai (aF 0 39 (ae 39))
  (ai (aF 0 44 (ae 44))
  aj)))
noncomputable def kK:aG:=⟨[0,45,39,44],some 0,[],[],false,sR⟩
noncomputable def tj:SS:=
  (ai (ay 45 (bW .tuple (.e (aE [40] (.e (bW .sorted (.e (aq (.v 0) 45)))) (.one 40) aH (cy mt (aZ (.e (aq (.v 0) 45)) (ae 40)) 5 ak)))))
  (ai (ay 39 (bW .tuple (.e (aE [46] (.e (aq (.v 0) 39)) (.one 46) aH (cy mt (ae 46) 5 ak)))))
  (ai (aR (aO (aa (ae 45) (aa (ae 39) (aa (bW .tuple (.e (aE [47] (.e (aq (.v 0) 44)) (.one 47) aH (cy mt (ae 47) 5 ak)))) ak)))))
  aj)))
noncomputable def kY:aG:=⟨[0],none,[],[45,39],false,tj⟩
noncomputable def sf:SS:=
  (ai (aF 0 48 (ae 48))
  (ai (aF 0 49 (ae 49))
  (ai (aF 0 50 (ae 50))
  (ai (aF 0 51 (bW .tuple (.v 51)))
  (ai (aF 0 52 (bW .tuple (.v 52)))
  aj)))))
noncomputable def jO:aG:=⟨[0,48,49,50,51,52],some 0,[],[],false,sf⟩
noncomputable def qI:SS:=
  (ai (aR (aO (aa (aq (.v 0) 48) (aa (aq (.v 0) 49) (aa (aq (.v 0) 50) (aa (aq (.v 0) 51) (aa (aq (.v 0) 52) ak)))))))
  aj)
noncomputable def jw:aG:=⟨[0],none,[],[],false,qI⟩
noncomputable def nE:SS:=
  (ai (aR (dE 1 3 (aa (oi [7] (.e (bW .sorted (.e (aq (.v 53) 6)))) (.one 7) (bB (aD .In (ae 7) (.v 26)) aH) (aZ (.v 26) (ae 7)) (aZ (.e (aq (.v 53) 6)) (ae 7))) ak)))
  aj)
noncomputable def ix:aG:=⟨[53,26],none,[],[],false,nE⟩
noncomputable def pq:SS:=
  (ai (ii 54 dN)
  (ai (fI (.e (aq (.v 55) 39)) (.one 46) (ai (fI (.e (aq (.v 46) 44)) (.one 56) (ai (fq (nj .LtE .Lt (ah (.int 0)) (ae 56) (bW .len (.e (aq (.v 55) 44)))) (ai (bG 54 (ae 56) (ah (.bool true)))
  aj) aj)
  aj))
  aj))
  (ai (aR (bW .sorted (.v 54)))
  aj)))
noncomputable def i8:aG:=⟨[55],none,[],[54,46,56],false,pq⟩
noncomputable def lF:SS:=
  (ai (aR (aE [43,57] (.e (Aq .get (.e (aq (.v 26) 8)) (aa (ae 7) (aa (bM ak) ak)))) (.many [43,57]) (bB (cQ (.e (bW .all (.e (aE [58] (.v 43) (.one 58) aH (gV .In (ae 58) (.v 25))))))) aH) (ae 57)))
  aj)
noncomputable def gN:aG:=⟨[26,7,25],some 25,[],[],false,lF⟩
noncomputable def Ca:SS:=
  (ai (fq (aD .Eq (ae 21) (.e (ah (.str 57)))) (ai (aR (aK 32 (aa (ae 26) (aa (ae 7) ak)) (some 25)))
  aj) aj)
  (ai (fq (aD .NotIn (ae 7) (.e (aq (.v 26) 15))) (ai (aR (bM ak))
  aj) aj)
  (ai (fq (aD .Eq (ae 21) (.e (ah (.str 16)))) (ai (aR (bM (aa (aZ (.e (aq (.v 26) 15)) (ae 7)) ak)))
  aj) aj)
  (ai (fq (aD .Eq (ae 21) (.e (ah (.str 59)))) (ai (aR (iX (cQ (.e b5)) (bM (aa (aZ (.e (aq (.v 26) 15)) (ae 7)) ak)) (bM ak)))
  aj) aj)
  (ai (aR (bW .list (.e (aZ (.e (aq (.v 26) 15)) (ae 7)))))
  aj)))))
noncomputable def nP:aG:=⟨[21,26,7,25],some 25,[],[],false,Ca⟩
noncomputable def tB:SS:=
  (ai (ii 60 (bM ak))
  (ai (fI (.v 14) (.one 7) (ai (fI (.e (aq (.v 47) 24)) (.one 26) (ai (fq (aD .In (aq (.v 47) 21) (.e (ah (.tup [.str 61,.str 62])))) (ai (mF 60 b5)
  aj) (ai (fI (.e (aK 33 (aa (aq (.v 47) 21) (aa (ae 26) (aa (ae 7) ak))) (some 25))) (.one 63) (ai (bG 25 (ae 63) (ah (.bool true)))
  aj))
  aj))
  aj))
  aj))
  (ai (aR (ae 60))
  aj)))
noncomputable def kL:aG:=⟨[47,14,25],some 25,[],[60,7,26,63],false,tB⟩
noncomputable def uE:SS:=
  (ai (ii 64 (aE [56] (.e (aK 31 (aa (ae 55) ak) none)) (.one 56) aH (aO (aa (ae 56) (aa (aO ak) ak)))))
  (ai (ii 65 dN)
  (ai (ay 66 (ah (.int 0)))
  (ai (rG (aD .Lt (ae 66) (.e (bW .len (.v 64)))) (ai (vY [56,67] (aZ (.v 64) (ae 66)))
  (ai (ay 66 (cx .Add (ae 66) (ah (.int 1))))
  (ai (ay 13 (cx .Add (aO (aa (ae 56) ak)) (ae 67)))
  (ai (fq (vM (aD .In (ae 13) (.v 65)) (vM (rF (nj .LtE .Lt (ah (.int 0)) (ae 56) (bW .len (.e (aq (.v 55) 44))))) nz)) (ai C7
  aj) aj)
  (ai (bG 65 (ae 13) (ah (.bool true)))
  (ai (mF 64 (aK 34 (aa (aZ (.e (aq (.v 55) 44)) (ae 56)) (aa (iX (cQ (.v 67)) (ae 67) (bW .tuple (.e (bW .sorted (.v 25))))) ak)) (some 25)))
  aj)))))))
  aj))))
noncomputable def mY:aG:=⟨[55,25],some 25,[],[56,64,65,66,67,13],false,uE⟩
noncomputable def vW:SS:=
  (ai (ii 25 (bW .dict (.e (aE [7] (.v 14) (.one 7) aH (aO (aa (ae 7) (aa (ah (.bool true)) ak)))))))
  (ai (ay 68 (sK (ah (.int 1))))
  (ai (rG (aD .Lt (ae 68) (.e (bW .len (.v 25)))) (ai (ay 68 (bW .len (.v 25)))
  (ai (EG (aK 35 (aa (ae 55) ak) (some 25)))
  aj)))
  (ai (aR (bW .sorted (.v 25)))
  aj))))
noncomputable def ml:aG:=⟨[55,14],none,[],[25,68],false,vW⟩
noncomputable def Bw:SS:=
  (ai (fq (aD .Is (aq (.v 69) 30) (.e (ah .none))) (ai (aR (bW .sorted (.e (bW .dict (.e (aE [7] (.v 14) (.one 7) aH (aO (aa (ae 7) (aa (ah (.bool true)) ak)))))))))
  aj) aj)
  (ai (aR (aK 36 (aa (aq (.v 69) 30) (aa (ae 14) ak)) none))
  aj))
noncomputable def no:aG:=⟨[69,14],none,[],[],false,Bw⟩
noncomputable def tz:SS:=
  (ai (aR (gV .Eq (u7 (ae 14) (bW .len (.v 70))) (.v 70)))
  aj)
noncomputable def k0:aG:=⟨[14,70],none,[],[],false,tz⟩
noncomputable def wB:SS:=
  (ai (ii 54 (bM ak))
  (ai (fI (.v 4) (.many [43,57]) (ai (fq (aD .Eq (aE [70,58] (.v 54) (.many [70,58]) (bB (cQ (.e (aK 38 (aa (ae 43) (aa (ae 70) ak)) none))) aH) (ae 70)) (.e (bM ak))) (ai (j8 54 (aO (aa (ae 43) (aa (ae 57) ak))))
  aj) aj)
  aj))
  (ai (aR (ae 54))
  aj)))
noncomputable def oy:aG:=⟨[4],none,[],[54,43,57],false,wB⟩
noncomputable def wK:SS:=
  (ai (aR (aO (aa (cy mt (aZ (.v 33) (ah (.int 0))) 5 ak) (aa (cy mt (aZ (.v 33) (ah (.int 1))) 5 ak) ak))))
  aj)
noncomputable def ot:aG:=⟨[33],none,[],[],false,wK⟩
noncomputable def ql:SS:=
  (ai (aR (gV .NotEq (aE [33] (.v 11) (.one 33) (bB (rF (cQ (.e (cy mt (aZ (.v 33) (ah (.int 1))) 71 ak)))) aH) (ae 33)) (.e (bM ak))))
  aj)
noncomputable def jA:aG:=⟨[11],none,[],[],false,ql⟩
noncomputable def vq:SS:=
  (ai (fI (.v 14) (.one 7) (ai (fq (aD .NotIn (ae 7) (.v 72)) (ai (aR (ah .none))
  aj) aj)
  aj))
  (ai (aR (bW .tuple (.e (aE [7] (.v 14) (.one 7) aH (aZ (.v 72) (ae 7))))))
  aj))
noncomputable def lZ:aG:=⟨[14,72],none,[],[7],false,vq⟩
noncomputable def tm:SS:=
  (ai (aR (oi [7] (.e (bW .sorted (.v 4))) (.one 7) (bB (aD .In (ae 7) (.v 72)) aH) (aZ (.v 72) (ae 7)) (aZ (.v 4) (ae 7))))
  aj)
noncomputable def k7:aG:=⟨[4,72],none,[],[],false,tm⟩
noncomputable def vZ:SS:=
  (ai (ii 15 dN)
  (ai (fI (.e (bW .sorted (.e (aq (.v 26) 15)))) (.one 7) (ai (ay 10 (aK 42 (aa (aO (aa (ae 7) (aa (aZ (.e (aq (.v 26) 15)) (ae 7)) ak))) (aa (ae 72) ak)) none))
  (ai (fq (aD .IsNot (ae 10) (.e (ah .none))) (ai (bG 15 (aZ (.v 10) (ah (.int 0))) (aZ (.v 10) (ah (.int 1))))
  aj) aj)
  aj)))
  (ai (aR (dE 4 9 (aa (ae 15) ak)))
  aj)))
noncomputable def l9:aG:=⟨[26,72],none,[],[15,7,10],false,vZ⟩
noncomputable def rC:SS:=
  (ai (ii 8 dN)
  (ai (fI (.e (bW .sorted (.e (aq (.v 26) 8)))) (.one 9) (ai (fI (.e (aZ (.e (aq (.v 26) 8)) (ae 9))) (.many [43,57]) (ai (ay 10 (aK 42 (aa (cx .Add (cx .Add (aO (aa (ae 9) ak)) (bW .tuple (.v 43))) (aO (aa (ae 57) ak))) (aa (ae 72) ak)) none))
  (ai (fq (aD .IsNot (ae 10) (.e (ah .none))) (ai (bG 8 (aZ (.v 10) (ah (.int 0))) (cx .Add (Aq .get (.v 8) (aa (aZ (.v 10) (ah (.int 0))) (aa (bM ak) ak))) (bM (aa (aO (aa (Ks (ae 10) (ah (.int 1)) (sK (ah (.int 1)))) (aa (aZ (.v 10) (sK (ah (.int 1)))) ak))) ak))))
  aj) aj)
  aj)))
  aj))
  (ai (aR (dE 2 5 (aa (ae 8) ak)))
  aj)))
noncomputable def jS:aG:=⟨[26,72],none,[],[8,9,43,57,10],false,rC⟩
noncomputable def zf:SS:=
  (ai (fq (cQ (.e (qc (ae 26) 14))) (ai (ay 73 b5)
  (ai (ay 74 (aK 30 (aa (aq (.v 26) 74) (aa (ae 72) ak)) none))
  (ai (aR b5)
  aj))) aj)
  (ai (ii 11 dN)
  (ai (fI (.e (bW .sorted (.e (aq (.v 26) 11)))) (.one 13) (ai (ay 10 (aK 42 (aa (ae 13) (aa (ae 72) ak)) none))
  (ai (fq (aD .IsNot (ae 10) (.e (ah .none))) (ai (bG 11 (ae 10) (aZ (.e (aq (.v 26) 11)) (ae 13)))
  aj) aj)
  aj)))
  (ai (aR (dE 3 7 (aa (ae 11) (aa (aq (.v 26) 12) ak))))
  aj))))
noncomputable def qy:aG:=⟨[26,72],none,[],[73,74,11,13,10],false,zf⟩
noncomputable def lK:SS:=
  (ai (fq (aD .Eq (ae 21) (.e (ah (.str 16)))) (ai (aR (aK 44 (aa (ae 26) (aa (ae 72) ak)) none))
  aj) aj)
  (ai (fq (aD .Eq (ae 21) (.e (ah (.str 75)))) (ai (aR b5)
  aj) aj)
  (ai (fq (aD .Eq (ae 21) (.e (ah (.str 76)))) (ai (aR b5)
  aj) aj)
  (ai (fq (aD .Eq (ae 21) (.e (ah (.str 57)))) (ai (aR (aK 45 (aa (ae 26) (aa (ae 72) ak)) none))
  aj) aj)
  (ai (aR b5)
  aj)))))
noncomputable def eu:aG:=⟨[21,26,72],none,[],[],false,lK⟩
noncomputable def rZ:SS:=
  (ai (fq (aD .Eq (ae 21) (.e (ah (.str 77)))) (ai (aR b5)
  aj) aj)
  (ai (fq (aD .Eq (ae 21) (.e (ah (.str 33)))) (ai (aR (aK 46 (aa (ae 26) (aa (ae 72) ak)) none))
  aj) aj)
  (ai (fq (aD .Eq (ae 21) (.e (ah (.str 78)))) (ai (aR b5)
  aj) aj)
  (ai (aR b5)
  aj))))
noncomputable def jH:aG:=⟨[21,26,72],none,[],[],false,rZ⟩
noncomputable def uF:SS:=
  (ai (fq (vM (aD .Eq (ae 21) (.e (ah (.str 61)))) (vM (aD .Eq (ae 21) (.e (ah (.str 62)))) nz)) (ai (aR b5)
  aj) aj)
  (ai (fq (aD .In (ae 21) (.e (aO (aa (ah (.str 16)) (aa (ah (.str 75)) (aa (ah (.str 76)) (aa (ah (.str 57)) (aa (ah (.str 59)) ak)))))))) (ai (aR (aK 47 (aa (ae 21) (aa (ae 26) (aa (ae 72) ak))) none))
  aj) aj)
  (ai (aR (aK 48 (aa (ae 21) (aa (ae 26) (aa (ae 72) ak))) none))
  aj)))
noncomputable def f9:aG:=⟨[26,21,72],none,[],[],false,uF⟩
noncomputable def CC:SS:=
  (ai (fq (vM (aD .Eq (ae 21) (.e (ah (.str 61)))) (vM (aD .Eq (ae 21) (.e (ah (.str 62)))) nz)) (ai (aR (gV .Eq (bW .len (.e (cy mt (ae 26) 79 ak))) (.e (ah (.int 0)))))
  aj) aj)
  (ai (fq (aD .Eq (ae 21) (.e (ah (.str 57)))) (ai (aR (gV .Eq (bW .len (.e (aq (.v 26) 8))) (.e (ah (.int 0)))))
  aj) aj)
  (ai (fq (aD .Eq (ae 21) (.e (ah (.str 77)))) (ai (aR (gV .Eq (bW .len (.e (aq (.v 26) 80))) (.e (ah (.int 0)))))
  aj) aj)
  (ai (fq (aD .Eq (ae 21) (.e (ah (.str 33)))) (ai (aR (gV .Eq (bW .len (.e (iX (cQ (.e (qc (ae 26) 14))) (aq (.e (aq (.v 26) 73)) 14) (aq (.v 26) 11)))) (.e (ah (.int 0)))))
  aj) aj)
  (ai (fq (aD .Eq (ae 21) (.e (ah (.str 78)))) (ai (aR (gV .Eq (bW .len (.e (aq (.v 26) 81))) (.e (ah (.int 0)))))
  aj) aj)
  (ai (fq (aD .In (ae 21) (.e (aO (aa (ah (.str 82)) (aa (ah (.str 83)) (aa (ah (.str 84)) ak)))))) (ai (aR (O0 (gV .Eq (bW .len (.e (aq (.v 26) 85))) (.e (ah (.int 0)))) (gV .Eq (bW .len (.e b5)) (.e (ah (.int 0))))))
  aj) aj)
  (ai (aR (gV .Eq (bW .len (.e (aq (.v 26) 15))) (.e (ah (.int 0)))))
  aj)))))))
noncomputable def ka:aG:=⟨[26,21],none,[],[],false,CC⟩
noncomputable def sU:SS:=
  (ai (aR (iX (aD .Is (ae 55) (.e (ah .none))) (ah .none) (cy mt (ae 55) 5 ak)))
  aj)
noncomputable def im:aG:=⟨[55],none,[],[],false,sU⟩
noncomputable def AZ:SS:=
  (ai (aR (iX (nj .LtE .Lt (ah (.int 0)) (ae 7) (bW .len (.e (aq (.v 28) 51)))) (aZ (.e (aq (.v 28) 51)) (ae 7)) (ah (.int 0))))
  aj)
noncomputable def ul:aG:=⟨[28,7],none,[],[],false,AZ⟩
noncomputable def BW:SS:=
  (ai (aR (iX (nj .LtE .Lt (ah (.int 0)) (ae 7) (bW .len (.e (aq (.v 28) 52)))) (aZ (.e (aq (.v 28) 52)) (ae 7)) (ah (.int 0))))
  aj)
noncomputable def t7:aG:=⟨[28,7],none,[],[],false,BW⟩
noncomputable def vF:SS:=
  (ai (aR (bM (aa (aO (aa (ah (.int 60)) (aa (ah (.int 62)) ak))) (aa (aO (aa (ah (.int 91)) (aa (ah (.int 93)) ak))) (aa (aO (aa (ah (.int 123)) (aa (ah (.int 125)) ak))) (aa (aO (aa (ah (.int 171)) (aa (ah (.int 187)) ak))) (aa (aO (aa (ah (.int 8712)) (aa (ah (.int 8715)) ak))) (aa (aO (aa (ah (.int 8713)) (aa (ah (.int 8716)) ak))) (aa (aO (aa (ah (.int 8714)) (aa (ah (.int 8717)) ak))) (aa (aO (aa (ah (.int 65124)) (aa (ah (.int 65125)) ak))) (aa (aO (aa (ah (.int 65308)) (aa (ah (.int 65310)) ak))) (aa (aO (aa (ah (.int 65339)) (aa (ah (.int 65341)) ak))) (aa (aO (aa (ah (.int 65371)) (aa (ah (.int 65373)) ak))) (aa (aO (aa (ah (.int 10637)) (aa (ah (.int 10640)) ak))) ak))))))))))))))
  aj)
noncomputable def lX:aG:=⟨[],none,[],[],true,vF⟩
noncomputable def ww:SS:=
  (ai (aR (bM (aa (aO (aa (ah (.int 40)) (aa (ah (.int 1)) ak))) (aa (aO (aa (ah (.int 8249)) (aa (ah (.int 1)) ak))) (aa (aO (aa (ah (.int 8261)) (aa (ah (.int 1)) ak))) (aa (aO (aa (ah (.int 8317)) (aa (ah (.int 1)) ak))) (aa (aO (aa (ah (.int 8333)) (aa (ah (.int 1)) ak))) (aa (aO (aa (ah (.int 8804)) (aa (ah (.int 4)) ak))) (aa (aO (aa (ah (.int 8814)) (aa (ah (.int 14)) ak))) (aa (aO (aa (ah (.int 8842)) (aa (ah (.int 1)) ak))) (aa (aO (aa (ah (.int 8847)) (aa (ah (.int 2)) ak))) (aa (aO (aa (ah (.int 8866)) (aa (ah (.int 1)) ak))) (aa (aO (aa (ah (.int 8905)) (aa (ah (.int 2)) ak))) (aa (aO (aa (ah (.int 8912)) (aa (ah (.int 1)) ak))) (aa (aO (aa (ah (.int 8918)) (aa (ah (.int 1)) ak))) (aa (aO (aa (ah (.int 8920)) (aa (ah (.int 4)) ak))) (aa (aO (aa (ah (.int 8928)) (aa (ah (.int 7)) ak))) (aa (aO (aa (ah (.int 8968)) (aa (ah (.int 2)) ak))) (aa (aO (aa (ah (.int 9001)) (aa (ah (.int 1)) ak))) (aa (aO (aa (ah (.int 10088)) (aa (ah (.int 7)) ak))) (aa (aO (aa (ah (.int 10214)) (aa (ah (.int 5)) ak))) (aa (aO (aa (ah (.int 10627)) (aa (ah (.int 5)) ak))) (aa (aO (aa (ah (.int 12296)) (aa (ah (.int 5)) ak))) (aa (aO (aa (ah (.int 12308)) (aa (ah (.int 4)) ak))) (aa (aO (aa (ah (.int 65113)) (aa (ah (.int 3)) ak))) (aa (aO (aa (ah (.int 65288)) (aa (ah (.int 1)) ak))) (aa (aO (aa (ah (.int 65375)) (aa (ah (.int 1)) ak))) (aa (aO (aa (ah (.int 65378)) (aa (ah (.int 1)) ak))) (aa (aO (aa (ah (.int 8764)) (aa (ah (.int 1)) ak))) (aa (aO (aa (ah (.int 8786)) (aa (ah (.int 2)) ak))) (aa (aO (aa (ah (.int 8880)) (aa (ah (.int 4)) ak))) (aa (aO (aa (ah (.int 10638)) (aa (ah (.int 1)) ak))) (aa (aO (aa (ah (.int 10641)) (aa (ah (.int 4)) ak))) (aa (aO (aa (ah (.int 10712)) (aa (ah (.int 2)) ak))) (aa (aO (aa (ah (.int 10748)) (aa (ah (.int 1)) ak))) (aa (aO (aa (ah (.int 11810)) (aa (ah (.int 4)) ak))) ak))))))))))))))))))))))))))))))))))))
  aj)
noncomputable def oV:aG:=⟨[],none,[],[],false,ww⟩
noncomputable def qR:SS:=
  (ai (ii 54 (aK 54 ak none))
  (ai (fI (.e (aK 55 ak none)) (.many [9,86]) (ai (mF 54 (aE [87] (.e (bW .range (.v 86))) (.one 87) aH (aO (aa (cx .Add (ae 9) (cx .Mult (ah (.int 2)) (ae 87))) (aa (cx .Add (cx .Add (ae 9) (cx .Mult (ah (.int 2)) (ae 87))) (ah (.int 1))) ak)))))
  aj))
  (ai (aR (ae 54))
  aj)))
noncomputable def jz:aG:=⟨[],none,[],[54,9,86],false,qR⟩
noncomputable def si:SS:=
  (ai (ii 26 dN)
  (ai (fI (.e (aK 56 ak none)) (.many [37,58]) (ai (bG 26 (ae 37) (ae 58))
  (ai (bG 26 (ae 58) (ae 37))
  aj)))
  (ai (aR (ae 26))
  aj)))
noncomputable def jj:aG:=⟨[],none,[],[26,37,58],false,si⟩
noncomputable def qp:SS:=
  (ai (ii 54 (rX (ah (.int 32)) (ah (.bool true))))
  (ai (ay 88 (aK 57 ak none))
  (ai (fI (.v 1) (.one 2) (ai (bG 54 (ae 2) (ah (.bool true)))
  (ai (bG 54 (Aq .get (.v 88) (aa (ae 2) (aa (ae 2) ak))) (ah (.bool true)))
  aj)))
  (ai (aR (ae 54))
  aj))))
noncomputable def jm:aG:=⟨[1],none,[],[54,88,2],false,qp⟩
noncomputable def oe:SS:=
  (ai (fq (aD .Is (ae 3) (.e (ah .none))) (ai (aR (ah .none))
  aj) aj)
  (ai (ay 89 dN)
  (ai (fI (.e (bW .sorted (.e (aq (.v 3) 89)))) (.one 90) (ai (ay 10 (bW .tuple (.e (aE [2] (.e (aZ (.e (aq (.v 3) 89)) (ae 90))) (.one 2) (bB (aD .In (ae 2) (.v 1)) aH) (ae 2)))))
  (ai (fq (bB (aD .In (ae 90) (.v 1)) (bB (aD .NotEq (ae 10) (.e (aO ak))) aH)) (ai (bG 89 (ae 90) (ae 10))
  aj) aj)
  aj)))
  (ai (ay 91 dN)
  (ai (fI (.e (bW .sorted (.e (aq (.v 3) 91)))) (.many [90,2]) (ai (fq (bB (aD .In (ae 90) (.v 1)) (bB (aD .In (ae 2) (.v 1)) aH)) (ai (bG 91 (aO (aa (ae 90) (aa (ae 2) ak))) (aZ (.e (aq (.v 3) 91)) (aO (aa (ae 90) (aa (ae 2) ak)))))
  aj) aj)
  aj))
  (ai (aR b5)
  aj))))))
noncomputable def iK:aG:=⟨[3,1],none,[],[89,90,2,10,91],false,oe⟩
noncomputable def q7:SS:=
  (ai (ii 54 (rX (ah (.int 0)) (ah (.bool true))))
  (ai (fI (.v 1) (.one 2) (ai (bG 54 (cy mt (ae 27) 7 (aa (ae 2) ak)) (ah (.bool true)))
  aj))
  (ai (ay 3 (aK 59 (aa (aq (.v 27) 3) (aa (ae 1) ak)) none))
  (ai (fq (aD .IsNot (ae 3) (.e (ah .none))) (ai (fI (.e (aq (.v 3) 91)) (.one 33) (ai (bG 54 (aZ (.e (aq (.v 3) 91)) (ae 33)) (ah (.bool true)))
  aj))
  aj) aj)
  (ai (aR (bW .sorted (.v 54)))
  aj)))))
noncomputable def jt:aG:=⟨[27,1],none,[],[54,2,3,33],false,q7⟩
noncomputable def uQ:SS:=
  (ai (ii 54 dN)
  (ai (fI (.v 14) (.one 7) (ai (bG 54 (ae 7) (bW .len (.v 54)))
  aj))
  (ai (aR (ae 54))
  aj)))
noncomputable def l7:aG:=⟨[14],none,[],[54,7],false,uQ⟩
noncomputable def sL:SS:=
  (ai (ay 92 (oi [2] (.e (bW .sorted (.v 1))) (.one 2) (bB (aD .NotEq (cy mt (ae 27) 7 (aa (ae 2) ak)) (.e (ah (.int 0)))) aH) (ae 2) (aZ (.v 72) (cy mt (ae 27) 7 (aa (ae 2) ak)))))
  (ai (ay 3 (aK 59 (aa (aq (.v 27) 3) (aa (ae 1) ak)) none))
  (ai (fq (aD .IsNot (ae 3) (.e (ah .none))) (ai (aF 3 91 (oi [33] (.e (bW .sorted (.e (aq (.v 3) 91)))) (.one 33) aH (ae 33) (aZ (.v 72) (aZ (.e (aq (.v 3) 91)) (ae 33)))))
  aj) aj)
  (ai (aR (dE 0 0 (aa (ae 92) (aa (ae 3) ak))))
  aj))))
noncomputable def kH:aG:=⟨[27,1,72],none,[],[92,3],false,sL⟩
noncomputable def sO:SS:=
  (ai (ay 51 (aE [7] (.v 14) (.one 7) aH (aK 52 (aa (ae 28) (aa (ae 7) ak)) none)))
  (ai (aR (dE 13 28 (aa (aq (.v 28) 48) (aa (aq (.v 28) 49) (aa (aq (.v 28) 50) (aa (ae 51) (aa (aE [7] (.v 14) (.one 7) aH (aK 53 (aa (ae 28) (aa (ae 7) ak)) none)) ak)))))))
  aj))
noncomputable def k4:aG:=⟨[28,14],none,[],[51],false,sO⟩
noncomputable def y5:SS:=
  (ai (ay 8 (aE [37] (.e (aq (.v 29) 8)) (.one 37) aH b5))
  (ai (ay 35 (aK 43 (aa (aq (.v 29) 35) (aa (ae 72) ak)) none))
  (ai (ay 36 (aK 43 (aa (aq (.v 29) 36) (aa (ae 72) ak)) none))
  (ai (aR (dE 8 18 (aa (aK 30 (aa (aq (.v 29) 6) (aa (ae 72) ak)) none) (aa (aK 30 (aa (aq (.v 29) 34) (aa (ae 72) ak)) none) (aa (ae 8) (aa (ae 35) (aa (ae 36) ak)))))))
  aj))))
noncomputable def qB:aG:=⟨[29,72],none,[],[8,35,36],false,y5⟩
noncomputable def uX:SS:=
  (ai (ay 24 (aE [26] (.e (aq (.v 47) 24)) (.one 26) aH (aK 49 (aa (ae 26) (aa (aq (.v 47) 21) (aa (ae 72) ak))) none)))
  (ai (aR (dE 6 14 (aa (aq (.v 47) 21) (aa (aq (.v 47) 22) (aa (aq (.v 47) 23) (aa (aE [26] (.v 24) (.one 26) (bB (rF (cQ (.e (aK 50 (aa (ae 26) (aa (aq (.v 47) 21) ak)) none)))) aH) (ae 26)) ak))))))
  aj))
noncomputable def mr:aG:=⟨[47,72],none,[],[24],false,uX⟩
noncomputable def rP:SS:=
  (ai (fq (bB (aD .NotEq (aq (.v 47) 21) (.e (ah (.str 61)))) (bB (aD .NotEq (aq (.v 47) 21) (.e (ah (.str 62)))) aH)) (ai (aR (ae 47))
  aj) aj)
  (ai (aR (dE 6 14 (aa (aq (.v 47) 21) (aa (aq (.v 47) 22) (aa (aq (.v 47) 23) (aa (aE [26] (.e (aq (.v 47) 24)) (.one 26) aH b5) ak))))))
  aj))
noncomputable def jX:aG:=⟨[47,93],none,[],[],false,rP⟩
noncomputable def vd:SS:=
  (ai (fq (aD .Is (ae 55) (.e (ah .none))) (ai (aR (ah .none))
  aj) aj)
  (ai (ay 44 (aE [47] (.e (aq (.v 55) 44)) (.one 47) aH (aK 65 (aa (ae 47) (aa (ae 72) ak)) none)))
  (ai (ay 93 (aK 61 (aa (aE [56] (.e (bW .range (.e (bW .len (.v 44))))) (.one 56) (bB (cQ (.e (aq (.e (aZ (.v 44) (ae 56))) 24))) aH) (ae 56)) ak) none))
  (ai (ii 39 (bM ak))
  (ai (fI (.e (aq (.v 55) 39)) (.one 46) (ai (j8 39 (dE 11 24 (aa (aq (.v 46) 40) (aa (aE [56] (.e (aq (.v 46) 44)) (.one 56) (bB (aD .In (ae 56) (.v 93)) aH) (aZ (.v 93) (ae 56))) ak))))
  aj))
  (ai (aR (dE 12 26 (aa (aq (.v 55) 45) (aa (ae 39) (aa (aE [56] (.v 93) (.one 56) aH (aK 66 (aa (aZ (.v 44) (ae 56)) (aa (ae 93) ak)) none)) ak)))))
  aj))))))
noncomputable def i3:aG:=⟨[55,72],none,[],[44,93,39,46],false,vd⟩
noncomputable def yk:SS:=
  (ai (ii 54 dN)
  (ai (fI (.e (bW .sorted (.v 32))) (.one 33) (ai (ay 10 (aK 42 (aa (ae 33) (aa (ae 72) ak)) none))
  (ai (fq (aD .IsNot (ae 10) (.e (ah .none))) (ai (bG 54 (ae 10) (aZ (.v 32) (ae 33)))
  aj) aj)
  aj)))
  (ai (aR (ae 54))
  aj)))
noncomputable def q9:aG:=⟨[32,72],none,[],[54,33,10],false,yk⟩
noncomputable def sH:SS:=
  (ai (aR (aK 37 (aa (ae 69) (aa (aK 60 (aa (aq (.v 69) 27) (aa (aK 58 (aa (ae 1) ak) none) ak)) none) ak)) none))
  aj)
noncomputable def kO:aG:=⟨[69,1],none,[],[],false,sH⟩
noncomputable def FA:SS:=
  (ai (ay 94 (aK 58 (aa (ae 1) ak) none))
  (ai (ay 14 (aK 69 (aa (ae 69) (aa (ae 1) ak)) none))
  (ai (ay 72 (aK 61 (aa (ae 14) ak) none))
  (ai (ay 27 (aK 62 (aa (aq (.v 69) 27) (aa (ae 94) (aa (ae 72) ak))) none))
  (ai (ay 29 (aK 64 (aa (aq (.v 69) 29) (aa (ae 72) ak)) none))
  (ai (ay 95 (aE [55] (.e (aO (aa (aq (.v 69) 30) (aa (aq (.v 69) 31) ak)))) (.one 55) aH (aK 67 (aa (ae 55) (aa (ae 72) ak)) none)))
  (ai (aR (dE 7 16 (aa (ae 27) (aa (aK 63 (aa (aq (.v 69) 28) (aa (ae 14) ak)) none) (aa (ae 29) (aa (aZ (.v 95) (ah (.int 0))) (aa (aZ (.v 95) (ah (.int 1))) (aa (aK 68 (aa (aq (.v 69) 32) (aa (ae 72) ak)) none) ak))))))))
  aj)))))))
noncomputable def wz:aG:=⟨[69,1],none,[],[94,14,72,27,29,95],false,FA⟩
noncomputable def zg:SS:=
  (ai (fq (aD .Gt (aZ (.v 96) (ah (.int 2))) (.e (ah (.int 0)))) (ai (ay 97 (cx .Mod (aZ (.v 96) (ah (.int 2))) (ae 98)))
  (ai (bG 96 (ah (.int 2)) (cx .FloorDiv (aZ (.v 96) (ah (.int 2))) (ae 98)))
  (ai (aR (ae 97))
  aj))) aj)
  (ai (ay 99 (aZ (.v 96) (ah (.int 1))))
  (ai (bG 96 (ah (.int 1)) (cx .Add (ae 99) (ah (.int 1))))
  (ai (ay 100 (iX (cQ (.e (aZ (.v 96) (ah (.int 0))))) (aZ (.e (aZ (.v 96) (ah (.int 0)))) (cx .Mod (ae 99) (bW .len (.e (aZ (.v 96) (ah (.int 0))))))) (ah (.int 0))))
  (ai (fq (bB (aD .Lt (ae 99) (.e (bW .len (.e (aZ (.v 96) (ah (.int 0))))))) (bB (aD .GtE (bW .abs (.v 100)) (.e (cx .Pow (ah (.int 10)) (ah (.int 18))))) aH)) (ai (ay 101 (cx .Sub (bW .abs (.v 100)) (cx .Pow (ah (.int 10)) (ah (.int 18)))))
  (ai (bG 96 (ah (.int 2)) (cx .FloorDiv (ae 101) (ae 98)))
  (ai (aR (cx .Mod (ae 101) (ae 98)))
  aj))) aj)
  (ai (ay 102 (cx .Mod (cx .Pow (cx .Add (cx .Add (cx .Mod (ae 100) (ah (.int 2147483629))) (cx .Mult (ah (.int 40503)) (ae 99))) (ah (.int 977))) (ah (.int 3))) (ah (.int 2147483587))))
  (ai (ay 102 (cx .Mod (cx .Pow (cx .Add (cx .Add (cx .Mult (ae 102) (cx .Add (cx .Mult (ah (.int 2)) (ae 99)) (ah (.int 5003)))) (cx .Mult (ae 99) (ae 99))) (ah (.int 11))) (ah (.int 3))) (ah (.int 2147483579))))
  (ai (aR (cx .Mod (cx .FloorDiv (ae 102) (ah (.int 64))) (ae 98)))
  aj))))))))
noncomputable def qj:aG:=⟨[96,98],some 96,[],[97,99,100,101,102],false,zg⟩
noncomputable def v3:SS:=
  (ai (aR (dE 12 26 (aa (rX (ah (.str 103)) (dE 10 22 (aa (ah (.str 103)) (aa (dE 9 20 (aa (sK (ah (.int 1))) (aa (bM (aa (ah (.int 0)) ak)) ak))) (aa dN ak))))) (aa (bM (aa (dE 11 24 (aa (ae 40) (aa (ae 104) ak))) ak)) (aa (ae 44) ak)))))
  aj)
noncomputable def mH:aG:=⟨[40,104,44],none,[],[],false,v3⟩
noncomputable def yz:SS:=
  (ai (ii 4 (bM ak))
  (ai (fI (.e (bW .range (.e (aK 71 (aa (ah (.int 5)) ak) (some 96))))) (.one 105) (ai (fq (aD .Eq (aK 71 (aa (ah (.int 2)) ak) (some 96)) (.e (ah (.int 0)))) (ai (j8 4 (aO (aa (ah (.str 16)) (aa (bW .dict (.e (aE [106] (.e (bW .range (.e (ah (.int 3))))) (.one 106) aH (aO (aa (aK 71 (aa (ah (.int 12)) ak) (some 96)) (aa (aK 71 (aa (ah (.int 12)) ak) (some 96)) ak)))))) ak))))
  aj) (ai (j8 4 (aO (aa (ah (.str 57)) (aa (aE [106] (.e (bW .range (.e (ah (.int 3))))) (.one 106) aH (aO (aa (aK 71 (aa (ah (.int 12)) ak) (some 96)) (aa (aK 71 (aa (ah (.int 12)) ak) (some 96)) (aa (aK 71 (aa (ah (.int 12)) ak) (some 96)) ak))))) ak))))
  aj))
  aj))
  (ai (aR (ae 4))
  aj)))
noncomputable def qN:aG:=⟨[96],some 96,[],[4,105],false,yz⟩
noncomputable def uN:SS:=
  (ai (fq (aD .Eq (aZ (.v 10) (ah (.int 0))) (.e (ah (.str 16)))) (ai (aR (dE 6 14 (aa (ah (.str 16)) (aa (ah (.int 0)) (aa (ah (.int 0)) (aa (bM (aa (dE 4 9 (aa (bW .dict (.e (aZ (.v 10) (ah (.int 1))))) ak)) ak)) ak))))))
  aj) aj)
  (ai (ii 8 dN)
  (ai (fI (.e (aZ (.v 10) (ah (.int 1)))) (.many [9,107,63]) (ai (bG 8 (ae 9) (cx .Add (Aq .get (.v 8) (aa (ae 9) (aa (bM ak) ak))) (bM (aa (aO (aa (aO (aa (ae 107) ak)) (aa (ae 63) ak))) ak))))
  aj))
  (ai (aR (dE 6 14 (aa (ah (.str 57)) (aa (ah (.int 0)) (aa (ah (.int 0)) (aa (bM (aa (dE 2 5 (aa (ae 8) ak)) ak)) ak))))))
  aj))))
noncomputable def iU:aG:=⟨[10],none,[],[8,9,107,63],false,uN⟩
noncomputable def vH:SS:=
  (ai (ay 68 (sK (ah (.int 1))))
  (ai (rG (aD .Lt (ae 68) (.e (bW .len (.v 25)))) (ai (ay 68 (bW .len (.v 25)))
  (ai (fI (.v 4) (.many [21,108]) (ai (fq (aD .Eq (ae 21) (.e (ah (.str 16)))) (ai (ay 25 (cx .BitOr (ae 25) (bW .set (.e (aE [7] (.v 108) (.one 7) (bB (aD .In (ae 7) (.v 25)) aH) (aZ (.v 108) (ae 7)))))))
  aj) (ai (ay 25 (cx .BitOr (ae 25) (bW .set (.e (aE [9,107,63] (.v 108) (.many [9,107,63]) (bB (bB (aD .In (ae 9) (.v 25)) (bB (aD .In (ae 107) (.v 25)) aH)) aH) (ae 63))))))
  aj))
  aj))
  aj)))
  (ai (aR (bW .sorted (.v 25)))
  aj)))
noncomputable def mG:aG:=⟨[25,4],none,[],[68,21,108],false,vH⟩
noncomputable def x8:SS:=
  (ai (fq (aD .Eq (aZ (.v 10) (ah (.int 0))) (.e (ah (.str 16)))) (ai (aR (aO (aa (ah (.str 16)) (aa (bW .dict (.e (aE [7] (.e (aZ (.v 10) (ah (.int 1)))) (.one 7) (bB (bB (aD .In (ae 7) (.v 93)) (bB (aD .In (aZ (.e (aZ (.v 10) (ah (.int 1)))) (ae 7)) (.v 93)) aH)) aH) (aO (aa (aZ (.v 93) (ae 7)) (aa (aZ (.v 93) (aZ (.e (aZ (.v 10) (ah (.int 1)))) (ae 7))) ak)))))) ak))))
  aj) aj)
  (ai (ay 92 (aE [109] (.e (aZ (.v 10) (ah (.int 1)))) (.one 109) (bB (aD .Eq (aE [7] (.v 109) (.one 7) (bB (aD .NotIn (ae 7) (.v 93)) aH) (ae 7)) (.e (bM ak))) aH) (ae 109)))
  (ai (aR (aO (aa (ah (.str 57)) (aa (aE [109] (.v 92) (.one 109) aH (bW .tuple (.e (aE [7] (.v 109) (.one 7) aH (aZ (.v 93) (ae 7)))))) ak))))
  aj)))
noncomputable def lM:aG:=⟨[10,93],none,[],[92],false,x8⟩
noncomputable def nX:SS:=
  (ai (ay 110 (aE [10] (.v 4) (.one 10) aH (aK 76 (aa (ae 10) (aa (ae 93) ak)) none)))
  (ai (ay 111 (aE [56] (.e (bW .range (.e (bW .len (.v 4))))) (.one 56) (bB (cQ (.e (aZ (.e (aZ (.v 110) (ae 56))) (ah (.int 1))))) aH) (ae 56)))
  (ai (ay 112 (aE [56] (.v 111) (.one 56) aH (cy mt (aK 74 (aa (aZ (.v 110) (ae 56)) ak) none) 5 ak)))
  (ai (fq (aD .NotEq (aE [47] (.e (aq (.v 113) 44)) (.one 47) aH (cy mt (ae 47) 5 ak)) (.v 112)) (ai (aR (ah (.bool false)))
  aj) aj)
  (ai (aR (LB (gV .Eq (aq (.e (aZ (.e (aq (.v 113) 39)) (ah (.int 0)))) 44) (.e (aE [56] (.v 104) (.one 56) (bB (aD .In (ae 56) (.v 111)) aH) (Aq .index (.v 111) (aa (ae 56) ak))))) (gV .Eq (aq (.e (aZ (.e (aq (.v 113) 39)) (ah (.int 0)))) 40) (.e (ah (.str 114))))))
  aj)))))
noncomputable def iB:aG:=⟨[113,4,104,93],none,[],[110,111,112],false,nX⟩
noncomputable def NV:SS:=
  (ai (ii 96 (bM (aa (aE [100] (.e (u7 (ae 115) (ah (.int 40)))) (.one 100) aH (bW .int (.v 100))) (aa (ah (.int 0)) (aa (ah (.int 0)) ak)))))
  (ai (ay 4 (aK 73 ak (some 96)))
  (ai (ay 104 (aE [56] (.e (bW .range (.e (bW .len (.v 4))))) (.one 56) (bB (aD .Eq (aK 71 (aa (ah (.int 2)) ak) (some 96)) (.e (ah (.int 1)))) aH) (ae 56)))
  (ai (ay 1 (bW .dict (.e (aE [2] (.e (bM (aa (ah (.int 32)) (aa (ah (.int 97)) (aa (ah (.int 98)) (aa (ah (.int 99)) (aa (ah (.int 100)) (aa (ah (.int 101)) ak)))))))) (.one 2) aH (aO (aa (ae 2) (aa (aK 71 (aa (ah (.int 12)) ak) (some 96)) ak)))))))
  (ai (ay 6 (bW .dict (.e (aE [105] (.e (bW .range (.e (ah (.int 4))))) (.one 105) aH (aO (aa (aK 71 (aa (ah (.int 12)) ak) (some 96)) (aa (cx .Add (ah (.int 1)) (aK 71 (aa (ah (.int 4)) ak) (some 96))) ak)))))))
  (ai (ay 32 (bW .dict (.e (aE [105] (.e (bW .range (.e (aK 71 (aa (ah (.int 5)) ak) (some 96))))) (.one 105) aH (aO (aa (aO (aa (aK 71 (aa (ah (.int 12)) ak) (some 96)) (aa (aK 71 (aa (ah (.int 12)) ak) (some 96)) ak))) (aa (cx .Add (ah (.int 3)) (ae 105)) ak)))))))
  (ai (ay 11 (bW .dict (.e (aE [105] (.e (bW .range (.e (ah (.int 3))))) (.one 105) aH (aO (aa (aO (aa (aK 71 (aa (ah (.int 12)) ak) (some 96)) (aa (aK 71 (aa (ah (.int 12)) ak) (some 96)) ak))) (aa (aO (aa (dE 5 11 (aa (ah (.int 0)) (aa (ah (.int 0)) (aa (cx .Add (ae 105) (ah (.int 1))) (aa (ah (.int 0)) ak))))) (aa (dE 5 11 (aa (ah (.int 0)) (aa (ah (.int 0)) (aa (ah (.int 0)) (aa (ah (.int 0)) ak))))) ak))) ak)))))))
  (ai (ay 30 (iX (cQ (.v 4)) (aK 72 (aa (ah (.str 114)) (aa (ae 104) (aa (aE [10] (.v 4) (.one 10) aH (aK 74 (aa (ae 10) ak) none)) ak))) none) (ah .none)))
  (ai (ay 31 (iX (aD .Eq (aK 71 (aa (ah (.int 2)) ak) (some 96)) (.e (ah (.int 1)))) (aK 72 (aa (ah (.str 32)) (aa (bM (aa (ah (.int 0)) ak)) (aa (bM (aa (dE 6 14 (aa (ah (.str 33)) (aa (ah (.int 0)) (aa (ah (.int 0)) (aa (bM (aa (dE 3 7 (aa (bW .dict (.v 11)) ak)) ak)) ak))))) ak)) ak))) none) (ah .none)))
  (ai (ay 28 (dE 13 28 (aa (ah (.int 1000)) (aa (ah (.int 700)) (aa (sK (ah (.int 200))) (aa (aE [7] (.e (bW .range (.e (ah (.int 12))))) (.one 7) aH (cx .Add (ah (.int 100)) (ae 7))) (aa (aE [7] (.e (bW .range (.e (ah (.int 12))))) (.one 7) aH (ae 7)) ak)))))))
  (ai (ay 69 (dE 7 16 (aa (dE 0 0 (aa (ae 1) ak)) (aa (ae 28) (aa (dE 8 18 (aa (dE 1 3 (aa (ae 6) ak)) (aa (dE 1 3 (aa dN ak)) (aa (bM ak) ak)))) (aa (ae 30) (aa (ae 31) (aa (ae 32) ak))))))))
  (ai (ay 116 (cy mt (ae 69) 5 ak))
  (ai (ay 117 (aE [2] (.e (bM (aa (ah (.int 97)) (aa (ah (.int 98)) (aa (ah (.int 99)) (aa (ah (.int 100)) (aa (ah (.int 101)) (aa (ah (.int 500)) ak)))))))) (.one 2) (bB (aD .Gt (aK 71 (aa (ah (.int 3)) ak) (some 96)) (.e (ah (.int 0)))) aH) (ae 2)))
  (ai (ay 67 (bW .set (.e (cx .Add (bM (aa (ah (.int 0)) ak)) (aE [2] (.e (cx .Add (ae 117) (bM (aa (ah (.int 32)) ak)))) (.one 2) aH (Aq .get (.v 1) (aa (ae 2) (aa (ah (.int 0)) ak))))))))
  (ai (ay 112 (aK 75 (aa (ae 67) (aa (aE [56] (.v 104) (.one 56) aH (aZ (.v 4) (ae 56))) ak)) none))
  (ai (fq (aD .NotEq (aK 69 (aa (ae 69) (aa (ae 117) ak)) none) (.v 112)) (ai (aR (ah (.bool false)))
  aj) aj)
  (ai (ay 93 (bW .dict (.e (aE [7] (.v 112) (.one 7) aH (aO (aa (ae 7) (aa (Aq .index (.v 112) (aa (ae 7) ak)) ak)))))))
  (ai (ay 113 (aK 70 (aa (ae 69) (aa (ae 117) ak)) none))
  (ai (fq (aD .NotEq (aq (.e (aq (.v 113) 27)) 1) (.e (bW .dict (.e (aE [2] (.e (cx .Add (ae 117) (bM (aa (ah (.int 32)) ak)))) (.one 2) (bB (aD .NotEq (Aq .get (.v 1) (aa (ae 2) (aa (ah (.int 0)) ak))) (.e (ah (.int 0)))) aH) (aO (aa (ae 2) (aa (aZ (.v 93) (aZ (.v 1) (ae 2))) ak)))))))) (ai (aR (ah (.bool false)))
  aj) aj)
  (ai (fq (aD .NotEq (cy mt (aq (.v 113) 28) 5 ak) (.e (aO (aa (ah (.int 1000)) (aa (ah (.int 700)) (aa (sK (ah (.int 200))) (aa (bW .tuple (.e (aE [7] (.v 112) (.one 7) aH (cx .Add (ah (.int 100)) (ae 7))))) (aa (bW .tuple (.v 112)) ak)))))))) (ai (aR (ah (.bool false)))
  aj) aj)
  (ai (fq (aD .NotEq (aq (.e (aq (.e (aq (.v 113) 29)) 6)) 6) (.e (bW .dict (.e (aE [7] (.v 6) (.one 7) (bB (aD .In (ae 7) (.v 93)) aH) (aO (aa (aZ (.v 93) (ae 7)) (aa (aZ (.v 6) (ae 7)) ak)))))))) (ai (aR (ah (.bool false)))
  aj) aj)
  (ai (fq (aD .NotEq (aq (.v 113) 32) (.e (bW .dict (.e (aE [37,58] (.v 32) (.many [37,58]) (bB (bB (aD .In (ae 37) (.v 93)) (bB (aD .In (ae 58) (.v 93)) aH)) aH) (aO (aa (aO (aa (aZ (.v 93) (ae 37)) (aa (aZ (.v 93) (ae 58)) ak))) (aa (aZ (.v 32) (aO (aa (ae 37) (aa (ae 58) ak)))) ak)))))))) (ai (aR (ah (.bool false)))
  aj) aj)
  (ai (fq (vM (aD .NotEq (gV .Is (aq (.v 113) 30) (.e (ah .none))) (.e (gV .Is (ae 30) (.e (ah .none))))) (vM (aD .NotEq (gV .Is (aq (.v 113) 31) (.e (ah .none))) (.e (gV .Is (ae 31) (.e (ah .none))))) nz)) (ai (aR (ah (.bool false)))
  aj) aj)
  (ai (fq (bB (aD .IsNot (ae 30) (.e (ah .none))) (bB (rF (cQ (.e (aK 77 (aa (aq (.v 113) 30) (aa (ae 4) (aa (ae 104) (aa (ae 93) ak)))) none)))) aH)) (ai (aR (ah (.bool false)))
  aj) aj)
  (ai (fq (aD .IsNot (ae 31) (.e (ah .none))) (ai (ay 118 (bW .dict (.e (aE [37,58] (.v 11) (.many [37,58]) (bB (bB (aD .In (ae 37) (.v 93)) (bB (aD .In (ae 58) (.v 93)) aH)) aH) (aO (aa (aO (aa (aZ (.v 93) (ae 37)) (aa (aZ (.v 93) (ae 58)) ak))) (aa (aZ (.v 11) (aO (aa (ae 37) (aa (ae 58) ak)))) ak)))))))
  (ai (fq (aD .NotEq (aE [47] (.e (aq (.e (aq (.v 113) 31)) 44)) (.one 47) aH (cy mt (ae 47) 5 ak)) (.e (iX (cQ (.v 118)) (bM (aa (cy mt (dE 6 14 (aa (ah (.str 33)) (aa (ah (.int 0)) (aa (ah (.int 0)) (aa (bM (aa (dE 3 7 (aa (ae 118) ak)) ak)) ak))))) 5 ak) ak)) (bM ak)))) (ai (aR (ah (.bool false)))
  aj) aj)
  aj)) aj)
  (ai (aR (gV .Eq (cy mt (ae 69) 5 ak) (.v 116)))
  aj))))))))))))))))))))))))))
noncomputable def Ey:aG:=⟨[115],none,[],[96,4,104,1,6,32,11,30,31,28,69,116,117,67,112,93,113,118],false,NV⟩
noncomputable def f0:Nat→Option aG:=fun n=>dz [(0,gR),(1,i5),(2,jn),(3,jc),(4,i9),(5,jf),(6,jd),(7,eS),(8,hW),(9,k9),(10,kT),(11,mV),(12,mQ),(13,gM),(14,kZ),(15,k6),(16,oS),(17,oY),(18,jT),(19,oU),(20,jy),(21,jE),(22,kM),(23,k5),(24,j4),(25,j3),(26,kK),(27,kY),(28,jO),(29,jw),(30,ix),(31,i8),(32,gN),(33,nP),(34,kL),(35,mY),(36,ml),(37,no),(38,k0),(39,oy),(40,ot),(41,jA),(42,lZ),(43,k7),(44,l9),(45,jS),(46,qy),(47,eu),(48,jH),(49,f9),(50,ka),(51,im),(52,ul),(53,t7),(54,lX),(55,oV),(56,jz),(57,jj),(58,jm),(59,iK),(60,jt),(61,l7),(62,kH),(63,k4),(64,qB),(65,mr),(66,jX),(67,i3),(68,q9),(69,kO),(70,wz),(71,qj),(72,mH),(73,qN),(74,iU),(75,mG),(76,lM),(77,iB),(78,Ey)] n
end
section
structure jZ (t:SetTable) (n:Nat):Prop where
 fits:t.fits n=true
 dum:t.dummies=#[]
 rise:t.place.toList.Pairwise (· < ·)
theorem jZ.size {t:SetTable} {n:Nat} (h:jZ t n):t.place.size=n:=by
 have:=h.fits;unfold SetTable.fits at this;simp at this;exact this.1
theorem NL {l:List Nat} (h:l.Pairwise (· < ·)) {i j:Nat} (hij:i < j) (hj:j < l.length):l[i]'(Nat.lt_trans hij hj) < l[j]:=List.pairwise_iff_getElem.mp h i j (Nat.lt_trans hij hj) hj hij
structure Ir (l:List Nat) (j k:Nat):Prop where
 le:k≤l.length
 lo:∀ a∈l.take k,a < j
 hi:∀ b∈l.drop k,j≤b
section
variable {l:List Nat} {i j k:Nat}
theorem Ir.once (c:Ir l j k) (d:Ir l j i):¬ k < i:=fun h=>by
 have hk:=gI h d.le
 exact f7 _ (gI (d.lo l[k] (List.mem_of_getElem? ((List.getElem?_take_of_lt h).trans (cq hk)))) (c.hi l[k] (by rw [List.drop_eq_getElem_cons hk];exact .head _)))
theorem Ir.same (c:Ir l j k) (d:Ir l j i):k=i:=Nat.le_antisymm (Nat.not_lt.mp (d.once c)) (Nat.not_lt.mp (c.once d))
theorem pU (hr:l.Pairwise (· < ·)) (hi:i < l.length):(∀ a∈l.take i,a < l[i])∧∀ b∈l.drop (i+1),l[i] < b:=by
 have h:(l.take i++l[i]::l.drop (i+1)).Pairwise (· < ·):=by rw [← List.drop_eq_getElem_cons hi,List.take_append_drop];exact hr
 obtain ⟨_,h2,h3⟩:=List.pairwise_append.mp h
 exact ⟨fun a ha=>h3 a ha _ (.head _),(List.pairwise_cons.mp h2).1⟩
theorem zT (hr:l.Pairwise (· < ·)) (hi:i < l.length) (h:l[i] < j):∀ a∈l.take (i+1),a < j:=by
 rw [List.take_succ_eq_append_getElem hi]
 exact fun a ha=>(cD.mp ha).elim (fun ha=>Nat.lt_trans ((pU hr hi).1 a ha) h) fun ha=>by rw [aV.mp ha];exact h
theorem Hc (hr:l.Pairwise (· < ·)) (hi:i < l.length) (h:j≤l[i]):∀ b∈l.drop i,j≤b:=by
 rw [List.drop_eq_getElem_cons hi]
 exact fun b hb=>(aU.mp hb).elim (fun e=>e▸h) fun hb=>aI h (Nat.le_of_lt ((pU hr hi).2 b hb))
theorem Mc {lo hi f:Nat} (h:lo < hi) (hf:hi≤lo+(f+1)):(lo+hi) / 2 < hi∧hi≤(lo+hi) / 2+1+f∧lo≤(lo+hi) / 2∧(lo+hi) / 2≤lo+f:=
 have m1:(lo+hi) / 2 < hi:=Nat.div_lt_of_lt_mul (Nat.two_mul hi▸Nat.add_lt_add_right h hi)
 have m2:lo≤(lo+hi) / 2:=(Nat.le_div_iff_mul_le (Nat.zero_lt_succ 1)).mpr (Nat.mul_two lo▸Nat.add_le_add_left (Nat.le_of_lt h) lo)
 ⟨m1,aI hf (aI (Nat.add_le_add_right m2 _) (er (by rw [Nat.add_comm f 1,Nat.add_assoc]))),m2,Nat.le_of_lt_succ (gI m1 hf)⟩
theorem iY {α:Type} {xs:Array α} {i:Nat} (h:i < xs.size) (d:α):xs.getD i d=xs.toList[i]:=by unfold Array.getD;rw [dif_pos h];rfl
end
theorem EV (xs:Array Nat) (j:Nat) (hr:xs.toList.Pairwise (· < ·)) (fuel:Nat):∀ lo hi,hi≤lo+fuel→lo≤hi→hi≤xs.size→(∀ a∈xs.toList.take lo,a < j)→(∀ b∈xs.toList.drop hi,j≤b)→Ir xs.toList j (SetTable.below.go xs j fuel lo hi):=by
 induction fuel with
 | zero=>intro lo hi hf hl hh h1 h2;exact ⟨aI hl hh,h1,Nat.le_antisymm hl hf▸h2⟩
 | succ f ih=>
  intro lo hi hf hl hh h1 h2
  show Ir _ _ (if lo < hi then (if xs.getD ((lo+hi) / 2) j < j then SetTable.below.go xs j f ((lo+hi) / 2+1) hi else SetTable.below.go xs j f lo ((lo+hi) / 2)) else lo)
  refine iteInduction (fun hlt=>?_) fun hlt=>⟨aI hl hh,h1,Nat.le_antisymm hl (Nat.not_lt.mp hlt)▸h2⟩
  obtain ⟨m1,m2,m3,m4⟩:=Mc hlt hf
  have hm:=gI m1 hh
  rw [iY hm]
  exact iteInduction (fun hc=>ih _ hi m2 m1 hh (zT hr hm hc) h2) fun hc=>ih lo _ m4 m3 (Nat.le_of_lt hm) h1 (Hc hr hm (Nat.not_lt.mp hc))
theorem qF (xs:Array Nat) (j:Nat) (hr:xs.toList.Pairwise (· < ·)):Ir xs.toList j (SetTable.below xs j):=
 EV xs j hr xs.size 0 xs.size (er (Nat.zero_add _).symm) (cr _) (Nat.le_refl _) (fun _ h=>nomatch h) (fun b h=>absurd h (by rw [List.drop_of_length_le (er eZ)];exact List.not_mem_nil))
theorem sS {xs:Array Nat} {j:Nat} (hr:xs.toList.Pairwise (· < ·)) (hn:xs.toList[SetTable.below xs j]?≠some j):(SetTable.insertAt xs (SetTable.below xs j) j).toList.Pairwise (· < ·):=by
 obtain ⟨h0,h1,h2⟩:=qF xs j hr
 have h3:∀ b∈xs.toList.drop (SetTable.below xs j),j < b:=fun b hb=>Nat.lt_of_le_of_ne (h2 b hb) fun e=>by
  have hk:SetTable.below xs j < xs.toList.length:=Nat.lt_of_not_le fun h=>by rw [List.drop_eq_nil_of_le h] at hb;exact absurd hb List.not_mem_nil
  rw [List.drop_eq_getElem_cons hk] at hb h2
  rw [cq hk] at hn
  exact (aU.mp hb).elim (fun c=>hn (by rw [← c,← e])) fun hb=>Nat.not_lt.mpr (h2 _ (.head _)) (e▸(pU hr hk).2 b hb)
 rw [SetTable.toList_insertAt,List.pairwise_append]
 exact ⟨hr.sublist (List.take_sublist _ _),List.pairwise_cons.mpr ⟨h3,hr.sublist (List.drop_sublist _ _)⟩,fun a ha b hb=>(aU.mp hb).elim (fun e=>e▸h1 a ha) fun hb=>Nat.lt_trans (h1 a ha) (h3 b hb)⟩
theorem iQ (t:SetTable) (n:Nat):jZ (t.standIn n) n:=
 ⟨SetTable.standIn_fits t n,rfl,by
  show (Array.range n).toList.Pairwise (· < ·)
  rw [Array.toList_range];exact List.pairwise_lt_range⟩
theorem vD {t:SetTable} {n:Nat} (hd:t.dummies=#[]) (hr:t.place.toList.Pairwise (· < ·)):jZ (t.orStandIn n) n:=by
 unfold SetTable.orStandIn
 split
 ·exact ⟨by assumption,hd,hr⟩
 ·exact iQ t n
theorem t5 (j:Nat):SetTable.has #[] j=false:=rfl
theorem ya {t:SetTable} (hd:t.dummies=#[]) (j:Nat):(∃ i,t.slot j=.live i)∨t.slot j=.empty:=by
 unfold SetTable.slot
 rw [hd,t5]
 exact iteInduction (motive:=fun x=>(∃ i,x=SetTable.Slot.live i)∨x=.empty) (fun _=>.inl ⟨_,rfl⟩) fun _=>.inr rfl
theorem CP (t:SetTable) (p:SetTable.Probe):(t.advance p).dummy=p.dummy:=by
 unfold SetTable.advance
 exact iteInduction (motive:=fun x=>SetTable.Probe.dummy x=p.dummy) (fun _=>rfl) fun _=>rfl
set_option smartUnfolding false in
theorem ru (t:SetTable) (hashAt:Nat→Int) (h:Int) (fuel:Nat) (p:SetTable.Probe):SetTable.probe.go t hashAt h (fuel+1) p =
  SetTable.Slot.rec (motive:=fun _=>Option SetTable.Met) (some (.empty p.j p.dummy)) (SetTable.probe.go t hashAt h fuel (t.advance { p with dummy:=some p.j })) (fun i=>if (hashAt i==h)=true then some (.candidate p.j i (t.advance p)) else SetTable.probe.go t hashAt h fuel (t.advance p)) (t.slot p.j):=rfl
theorem r7 {t:SetTable} (hd:t.dummies=#[]) (hashAt:Nat→Int) (h:Int) (fuel:Nat):∀ p j dummy,p.dummy=none→SetTable.probe.go t hashAt h fuel p=some (.empty j dummy)→dummy=none∧t.slot j=.empty:=by
 induction fuel with
 | zero=>intro p j dummy hp e;exact nn e
 | succ fuel ih=>
  intro p j dummy hp e
  rcases ya hd p.j with ⟨i,hs⟩ | hs
  ·rw [ru,hs] at e
   replace e:(if (hashAt i==h)=true then some (.candidate p.j i (t.advance p)) else SetTable.probe.go t hashAt h fuel (t.advance p))=some (SetTable.Met.empty j dummy):=e
   by_cases c:(hashAt i==h)=true
   ·rw [au c] at e;exact nomatch e
   ·rw [av c] at e;exact ih _ j dummy ((CP t p).trans hp) e
  ·rw [ru,hs] at e
   cases e
   exact ⟨hp,hs⟩
theorem wq {t:SetTable} (hd:t.dummies=#[]) {h:Int} {slot:Nat} {wd:Bool} (e:t.freeSlot h=some (slot,wd)):wd=false∧t.slot slot=.empty:=by
 unfold SetTable.freeSlot at e
 generalize hp:t.probe (fun _=>h+1) h (t.probeStart h)=o at e
 induction o with
 | none=>exact nn e
 | some m=>
  induction m with
  | empty j dummy=>
   obtain ⟨h1,h2⟩:=r7 hd _ h _ (t.probeStart h) j dummy rfl hp
   rw [h1] at e
   obtain ⟨rfl,rfl⟩:=Prod.mk.inj (az e)
   exact ⟨rfl,h2⟩
  | _=>exact nn e
theorem KA {t:SetTable} (hd:t.dummies=#[]) (hr:t.place.toList.Pairwise (· < ·)) {j:Nat} (hs:t.slot j=.empty) :
  (t.put j).1.dummies=#[]∧(t.put j).1.place.toList.Pairwise (· < ·)∧(t.put j).1.led=t.led∧(t.put j).1.plain=t.plain:=by
 unfold SetTable.put
 dsimp only
 refine ⟨by rw [hd,t5];rfl,sS hr fun e=>?_,rfl,rfl⟩
 unfold SetTable.slot at hs
 dsimp only at hs
 rw [au (by rw [← Array.getElem?_toList,e];exact bp.mpr rfl)] at hs
 exact nomatch hs
theorem sT (t:SetTable) (n:Nat):(t.orStandIn n).led=t.led:=by unfold SetTable.orStandIn;split<;>rfl
theorem Cr {t:SetTable} {n:Nat} (ht:jZ t n) (es:Array (Int×Value)) (hn:es.size=n) (h:Int) (x:Value) :
  jZ (layNew t es h x).2.1 (layNew t es h x).1.size∧(layNew t es h x).2.1.led=t.led∧(layNew t es h x).2.2.1=false:=by
 unfold layNew
 induction hf:t.freeSlot h with
 | none=>exact ⟨by simpa using iQ t (es.size+1),rfl,rfl⟩
 | some q=>
  obtain ⟨slot,wd⟩:=q
  obtain ⟨rfl,hs⟩:=wq ht.dum hf
  obtain ⟨h1,h2,h3,_⟩:=KA ht.dum ht.rise hs
  exact ⟨vD h1 h2,(sT _ _).trans h3,rfl⟩
theorem jC (n:Nat) (f:Nat→Option (Nat×Nat)) (hf:∀ j p,f j=some p→p.1=j):(((List.range n).filterMap f).map (·.1)).Pairwise (· < ·):=by
 rw [List.map_filterMap]
 have:(List.range n).filterMap (fun x=>Option.map (fun x:Nat×Nat=>x.fst) (f x))=(List.range n).filter fun j=>(f j).isSome:=by
  rw [← List.filterMap_eq_filter]
  congr 1
  funext j
  induction h:f j with
  | none=>simp [Option.guard,h]
  | some p=>simp [Option.guard,h,hf j p h]
 rw [this]
 exact List.pairwise_lt_range.sublist fR
theorem Ak {mask finger moves:Nat} {led plain:Bool} {hashes:Array Int} {t:SetTable} {order:Array Nat} (e:SetTable.laid mask finger moves led plain hashes=some (t,order)) :
  t.dummies=#[]∧t.place.toList.Pairwise (· < ·)∧t.led=led∧t.plain=plain∧t.place.size=order.size∧t.mask=mask:=by
 unfold SetTable.laid at e
 induction ho:SetTable.layClean mask hashes with
 | none=>rw [ho] at e;exact nomatch e
 | some owner=>
  rw [ho] at e
  cases e
  refine ⟨rfl,?_,rfl,rfl,by simp,rfl⟩
  refine jC _ _ fun j p h=>?_
  induction q:owner.getD j none with
  | none=>rw [q] at h;exact nn h
  | some k=>rw [q] at h;obtain rfl:=az h;rfl
noncomputable def Fj (led:Bool) (t:SetTable):Prop:=t.dummies=#[]∧t.place.toList.Pairwise (· < ·)∧t.led=led
theorem oM (t:SetTable) (n:Nat):Fj t.led (t.standIn n):=⟨(iQ t n).dum,(iQ t n).rise,rfl⟩
theorem vA {t:SetTable} {es:Array (Int×Value)} {wanted:Nat}:Fj t.led (relayAll t es wanted).2.1:=by
 unfold relayAll
 induction ho:t.relaid (es.map (·.1)) wanted with
 | none=>exact oM t _
 | some q=>
  obtain ⟨h1,h2,h3,_⟩:=Ak ho
  exact iteInduction (motive:=fun x:Array (Int×Value)×SetTable×Bool=>Fj t.led x.2.1) (fun _=>⟨h1,h2,h3⟩) fun _=>oM t _
theorem pd {t:SetTable} {es:Array (Int×Value)} {wanted:Nat}:jZ (relayAll t es wanted).2.1 (relayAll t es wanted).1.size∧(relayAll t es wanted).2.1.led=t.led:=
 have h:=vA (t:=t) (es:=es) (wanted:=wanted)
 ⟨⟨relayAll_fits t es wanted,h.1,h.2.1⟩,h.2.2⟩
noncomputable def Fn (m:Nat):Nat→Nat→List Nat
 | 0,_=>[]
 | n+1,i=>i::Fn m n ((i*5+1) % (m+1))
theorem Ly:∀ m∈[7,15,31],∀ i < m+1,∀ j < m+1,j∈Fn m (m+15) i:=by decide +kernel
theorem Ct (m i:Nat):i≤SetTable.runEnd m i:=iteInduction (motive:=(i≤·)) (fun _=>Nat.le_add_right _ _) fun _=>Nat.le_refl _
set_option smartUnfolding false in
theorem Cg (m:Nat) (owner:Array (Option Nat)) (fuel i pb:Nat):SetTable.layClean.free m owner (fuel+1) i pb =
  Option.rec (motive:=fun _=>Option Nat) (SetTable.layClean.free m owner fuel ((i*5+1+pb / 32) % (m+1)) (pb / 32)) (fun k=>some (i+k)) ((List.range (SetTable.runEnd m i+1 - i)).find? fun k=>(owner.getD (i+k) (some 0)).isNone):=rfl
theorem BB {m:Nat} {owner:Array (Option Nat)} (fuel:Nat):∀ i pb,pb < 32→∀ j∈Fn m fuel i,owner.getD j (some 0)=none→∃ r,SetTable.layClean.free m owner fuel i pb=some r∧owner.getD r (some 0)=none:=by
 induction fuel with
 | zero=>intro i pb hp j hj;exact absurd hj List.not_mem_nil
 | succ fuel ih=>
  intro i pb hp j hj hn
  rw [Cg,Nat.div_eq_of_lt hp]
  induction hk:(List.range (SetTable.runEnd m i+1 - i)).find? fun k=>(owner.getD (i+k) (some 0)).isNone with
  | some k=>exact ⟨_,rfl,Option.isNone_iff_eq_none.mp (List.find?_some (p:=fun k=>(owner.getD (i+k) (some 0)).isNone) hk)⟩
  | none=>
   rcases aU.mp hj with rfl | hj
   ·exact absurd (by rw [Nat.add_zero,hn];rfl) (List.find?_eq_none.mp hk 0 (List.mem_range.mpr (Nat.sub_pos_of_lt (Nat.lt_succ_of_le (Ct m _)))))
   ·exact ih _ 0 (Nat.zero_lt_succ _) j hj hn
theorem mB (l:List (Option Nat)) (h:none∉l):(l.filterMap id).length=l.length:=by
 induction l with
 | nil=>rfl
 | cons x l ih=>induction x with
  | none=>exact absurd (.head _) h
  | some a=>exact aw (·+1) (ih fun hx=>h (.tail _ hx))
theorem nA (l:List (Option Nat)) (k:Nat):∀ j,l[j]? = some none→((l.set j (some k)).filterMap id).Perm (k::l.filterMap id):=by
 induction l with
 | nil=>intro j h;exact nn h
 | cons x l ih=>
  intro j h
  cases j with
  | zero=>cases az h;exact .refl _
  | succ j=>cases x with
   | none=>exact ih j h
   | some a=>exact ((ih j h).cons a).trans (.swap ..)
noncomputable def KD (m:Nat) (acc:Option (Array (Option Nat)×Nat)) (h:Int):Option (Array (Option Nat)×Nat):=do
 let (owner,k) ← acc
 let j ← SetTable.layClean.free m owner (SetTable.turns m) (SetTable.bits h % (m+1)) (SetTable.bits h)
 pure (owner.setIfInBounds j (some k),k+1)
theorem PT {owner:Array (Option Nat)} {m k:Nat} (hs:owner.size=m+1) (hp:(owner.toList.filterMap id).Perm (List.range k)) (hk:k≤m):∃ j,j < m+1∧owner.getD j (some 0)=none:=by
 have hm:none∈owner.toList:=Classical.byContradiction fun c=>by
  have:=hp.length_eq
  rw [mB _ c,eZ,hs,eh] at this
  rw [← this] at hk;exact Nat.not_succ_le_self m hk
 obtain ⟨i,hi,hx⟩:=List.getElem_of_mem hm
 exact ⟨i,hs▸hi,(iY hi _).trans hx⟩
theorem Ba {owner:Array (Option Nat)} {r:Nat} (h:owner.getD r (some 0)=none):owner.toList[r]? = some none:=by
 by_cases c:r < owner.size
 ·rw [iY c] at h;rw [cq c,h]
 ·unfold Array.getD at h;rw [dif_neg c] at h;exact nn h.symm
structure IY (m:Nat) (x:Option (Array (Option Nat)×Nat)) (k:Nat):Prop where
 ex:∃ owner,x=some (owner,k)∧owner.size=m+1∧(owner.toList.filterMap id).Perm (List.range k)
theorem BK {m k:Nat} {x:Option (Array (Option Nat)×Nat)} {h:Int} (hm:m∈[7,15,31]) (hb:SetTable.bits h < 32) (hk:k < m) (L:IY m x k):IY m (KD m x h) (k+1):=by
 obtain ⟨owner,rfl,hs,hp⟩:=L.ex
 obtain ⟨j,hj,hn⟩:=PT hs hp (Nat.le_of_lt hk)
 obtain ⟨r,hr,hrn⟩:=BB (SetTable.turns m) (SetTable.bits h % (m+1)) (SetTable.bits h) hb j (Ly m hm _ (Nat.mod_lt _ (Nat.zero_lt_succ _)) j hj) hn
 refine ⟨owner.setIfInBounds r (some k),?_,Array.size_setIfInBounds.trans hs,?_⟩
 ·show (SetTable.layClean.free m owner (SetTable.turns m) (SetTable.bits h % (m+1)) (SetTable.bits h)).bind _=_
  rw [hr];rfl
 ·rw [Array.toList_setIfInBounds,List.range_succ]
  exact (nA _ k r (Ba hrn)).trans ((hp.cons k).trans (List.perm_append_singleton k _).symm)
theorem B6 {m:Nat} (hm:m∈[7,15,31]) (l:List Int) (hb:∀ h∈l,SetTable.bits h < 32):∀ x k,k+l.length≤m→IY m x k→IY m (l.foldl (KD m) x) (k+l.length):=by
 induction l with
 | nil=>intro x k _ L;exact L
 | cons h l ih=>
  intro x k hl L
  rw [eH,← Nat.succ_add_eq_add_succ] at hl ⊢
  exact ih (fun y hy=>hb y (.tail _ hy)) _ _ hl (BK hm (hb h (.head _)) (gI (Nat.lt_succ_self k) (aI (Nat.le_add_right _ _) hl)) L)
theorem qZ (n:Nat):((Array.replicate n (none:Option Nat)).toList.filterMap id)=[]:=by
 rw [Array.toList_replicate,List.filterMap_eq_nil_iff]
 intro a ha;rw [(List.mem_replicate.mp ha).2];rfl
theorem yO (l:List (Option Nat)):(List.range l.length).filterMap (fun j=>(l[j]?).getD none)=l.filterMap id:=by
 induction l with
 | nil=>rfl
 | cons a t ih=>
  rw [eH,List.range_succ_eq_map,List.filterMap_cons,List.filterMap_map]
  have e:((fun j=>((a::t)[j]?).getD none) ∘ Nat.succ)=fun j=>(t[j]?).getD none:=by funext i;simp
  rw [e,ih]
  induction a<;>rfl
theorem CA {m finger moves:Nat} {led plain:Bool} {hashes:Array Int} (hm:m∈[7,15,31]) (hb:∀ h∈hashes.toList,SetTable.bits h < 32) (hl:hashes.size≤m) :
  ∃ t order,SetTable.laid m finger moves led plain hashes=some (t,order)∧order.toList.Perm (List.range hashes.size):=by
 obtain ⟨o,e1,e2,e3⟩:=(B6 hm hashes.toList hb (some (Array.replicate (m+1) none,0)) 0 (by rw [Nat.zero_add];exact hl) ⟨_,rfl,Array.size_replicate,by rw [qZ];exact .refl _⟩).ex
 rw [Nat.zero_add] at e1 e3
 have hc:SetTable.layClean m hashes=some o:=by
  unfold SetTable.layClean
  rw [← Array.foldl_toList]
  show (List.foldl (KD m) _ hashes.toList).map (·.1)=_
  rw [e1];rfl
 unfold SetTable.laid
 rw [hc]
 refine ⟨_,_,rfl,?_⟩
 dsimp only
 rw [List.map_filterMap]
 have e:(fun x=>Option.map (fun x:Nat×Nat=>x.snd) (Option.map (fun x_1=>(x,x_1)) (o.getD x none)))=fun j=>(o.toList[j]?).getD none:=by
  funext x
  rw [Option.map_map,Array.getElem?_toList]
  have:o.getD x none=(o[x]?).getD none:=by simp
  rw [this]
  cases (o[x]?).getD none<;>rfl
 rw [e]
 have hz:m+1=o.toList.length:=by rw [eZ,e2]
 rw [hz,yO]
 exact e3
end
end Nz
namespace Nz
open PySem PyProof.Rows PySem.W
section
theorem bD {α:Type} {M:Model} {A:Around} {E:Value→Shared→Prop} {s:Shared} {c:Prop} [Decidable c] {a b:Sem α} {Q:α→Shared→Prop} (h:¬ c) (k:wpAny M A b Q E s):wpAny M A (if c then a else b) Q E s:=by rw [av h];exact k
theorem lI {α:Type} {M:Model} {A:Around} {E:Value→Shared→Prop} {s:Shared} {c:Prop} [Decidable c] {a b:Sem α} {Q:α→Shared→Prop} (h:c) (k:wpAny M A a Q E s):wpAny M A (if c then a else b) Q E s:=by rw [au h];exact k
noncomputable abbrev aL (es:List DictEntry) (ep:Nat):Obj:=⟨.type "dict",none,.dict es.toArray ep,#[]⟩
noncomputable abbrev cN (es:Array (Int×Value)) (ep:Nat) (t:SetTable):Obj:=⟨.type "set",none,.set es ep t,#[]⟩
structure Wd where
 prog:Program
 w:World
 ca:Nat→Addr
 fa:Nat→Addr
 h0:Heap
 F0:Addr→Prop
 g:Addr
 b:Addr
 mg:Str→Option Value
 mb:Str→Option Value
 K:Frag
 src:Nat→Option (Arguments×List Stmt×Scope)
 ow:Nat→List Str
noncomputable def bm (i:Nat) (x:Str):Prop:=mX[i]? = some x
theorem xi:mX.Nodup:=by decide +kernel
theorem bm.inj {i j:Nat} {x:Str} (a:bm i x) (b:bm j x):i=j:=
 (List.getElem?_inj (g8.mp a).1 xi).mp (a.trans b.symm)
theorem bm.fn {i:Nat} {x y:Str} (a:bm i x) (b:bm i y):x=y:=az (a.symm.trans b)
set_option tactic.hygienic true in
theorem GJ {x:Str} {i:Nat} (h:Ma x=some i):bm i x:=by
 unfold Ma at h
 split at h
 ·split at h
  ·split at h
   ·rename_i j _ _ e q;rw [← az h];unfold bm;rw [e,q]
   ·exact nn h
  ·exact nn h
 ·exact nn h
noncomputable def eX (W:Wd):bL→Int
 | .I i=>hashInt i
 | .S s=>hashStr W.w (mX.getD s Str.empty)
 | .T ks=>tupleKeyHash (intKind W.prog W.w) ks
section
variable (W:Wd)
noncomputable def uW (e:Int×Value):Int:=match e.2 with | .int k _=>k | _=>0
structure cV (es:Array (Int×Value)) (t:SetTable) (xs:List Int):Prop where
 els:∀ e∈es.toList,∃ k u,e=(hashInt k,Value.int k u)
 perm:(es.toList.map uW).Perm xs
 tab:jZ t es.size
 led:W.w.params.followText "set-order"=true∨t.led=true
 few:es.size < 4000
inductive mI (h:Heap) (a:Addr) (xs:List Int):Prop where
 | mk (es:Array (Int×Value)) (ep:Nat) (t:SetTable) (h1:h.get? a=some (cN es ep t)) (h2:cV W es t xs) (h3:xs.Pairwise (· < ·))
inductive VR (F:Addr→Prop) (h:Heap):T→Value→Prop
 | none:VR F h .none .none
 | bool (b:Bool):VR F h (.bool b) (.bool b)
 | int (i:Int) (t:Tok):VR F h (.int i) (.int i t)
 | str {i:Nat} {x:Str} (t:Tok):bm i x→VR F h (.str i) (.str x t)
 | tup_ {xs:List T} {vs:List Value} {a:Addr} {n:Nat}:F a→h.get? a=some (seqObj "tuple" vs.toArray n)→xs.length≤SZ→xs.length=vs.length→(∀ (i:Nat) t v,xs[i]? = some t→vs[i]? = some v→VR F h t v)→VR F h (.tup xs) (.ref a)
 | list_ {xs:List T} {vs:List Value} {a:Addr} {n:Nat}:F a→h.get? a=some (seqObj "list" vs.toArray n)→xs.length≤SZ→xs.length=vs.length→(∀ (i:Nat) t v,xs[i]? = some t→vs[i]? = some v→VR F h t v)→VR F h (.list xs) (.ref a)
 | dict_ {kvs:List (bL×T)} {es:List DictEntry} {a:Addr} {ep:Nat}:F a→h.get? a=some (aL es ep)→kvs.length≤SZ→(kvs.map (·.1)).Nodup∧(a==sysModules)=false→kvs.length=es.length→
   (∀ (i:Nat) p e,kvs[i]? = some p→es[i]? = some e→VR F h (cb p.1) e.key)→(∀ (i:Nat) p e,kvs[i]? = some p→es[i]? = some e→e.hash=eX W p.1)→(∀ (i:Nat) p e,kvs[i]? = some p→es[i]? = some e→VR F h p.2 e.val)→VR F h (.dict kvs) (.ref a)
 | dvals_ {kvs:List (bL×T)} {es:List DictEntry} {a d:Addr} {ep:Nat}:F a→h.get? a=some ⟨.type "dict_values",Option.none,.fields #[.ref d],#[]⟩→F d→h.get? d=some (aL es ep)→kvs.length≤SZ→kvs.length=es.length→
   (∀ (i:Nat) p e,kvs[i]? = some p→es[i]? = some e→VR F h (cb p.1) e.key)→(∀ (i:Nat) p e,kvs[i]? = some p→es[i]? = some e→e.hash=eX W p.1)→(∀ (i:Nat) p e,kvs[i]? = some p→es[i]? = some e→VR F h p.2 e.val)→VR F h (.dvals kvs) (.ref a)
 | set {xs:List Int} {a:Addr}:F a→xs.length≤SZ→mI W h a xs→VR F h (.set xs) (.ref a)
 | rng {n:Nat} {a:Addr} {b c t:Int} {u v z:Tok}:F a→PySem.IsRange h a b c t u v z→b=0→c=n→t=1→n≤SZ→VR F h (.rng n) (.ref a)
 | inst_ {c:Nat} {fs:List (Nat×T)} {es:List DictEntry} {a dx:Addr} {ep:Nat}:F a→F dx→h.get? a=some (instObj (W.ca c) dx)→h.get? dx=some (aL es ep)→fs.length≤100→fs.length=es.length→
   (∀ (i:Nat) p e,fs[i]? = some p→es[i]? = some e→∃ x u,bm p.1 x∧e.key=.str x u)→(∀ (i:Nat) p e,fs[i]? = some p→es[i]? = some e→VR F h p.2 e.val)→VR F h (.inst c fs) (.ref a)
end
inductive bQ {α β:Type} (R:α→β→Prop):List α→List β→Prop
 | nil:bQ R [] []
 | cons {a:α} {b:β} {l:List α} {m:List β}:R a b→bQ R l m→bQ R (a::l) (b::m)
section
variable {α β:Type} {R R':α→β→Prop}
theorem bQ.len {l:List α} {m:List β} (x:bQ R l m):l.length=m.length:=by
 induction x with
 | nil=>rfl
 | cons _ _ ih=>exact aw (·+1) ih
theorem bQ.at {l:List α} {m:List β} (x:bQ R l m):∀ (i:Nat) a b,l[i]? = some a→m[i]? = some b→R a b:=by
 induction x with
 | nil=>exact fun _ _ _ h=>nn h
 | cons r _ ih=>exact fun i=>Nat.casesOn i (fun a b h h'=>az h▸az h'▸r) fun i=>ih i
theorem bQ.of {l:List α}:∀ {m:List β},l.length=m.length→(∀ (i:Nat) a b,l[i]? = some a→m[i]? = some b→R a b)→bQ R l m:=by
 induction l with
 | nil=>intro m e _;rw [eC e.symm];exact .nil
 | cons a l ih=>
  intro m e h
  rcases m with _ | ⟨b,m⟩
  ·exact nomatch e
  ·exact .cons (h 0 a b rfl rfl) (ih (Nat.succ.inj e) fun i=>h (i+1))
theorem bQ.imp {l:List α} {m:List β} (k:∀ a b,R a b→R' a b) (x:bQ R l m):bQ R' l m:=by
 induction x with
 | nil=>exact .nil
 | cons r _ ih=>exact .cons (k _ _ r) ih
theorem bQ.append {l l':List α} {m m':List β} (x:bQ R l m) (y:bQ R l' m'):bQ R (l++l') (m++m'):=by
 induction x with
 | nil=>exact y
 | cons r _ ih=>exact .cons r ih
theorem bQ.take {l:List α} {m:List β} (x:bQ R l m):∀ n,bQ R (l.take n) (m.take n):=by
 induction x with
 | nil=>intro n;rw [List.take_nil,List.take_nil];exact .nil
 | cons r _ ih=>exact fun n=>Nat.casesOn n .nil fun n=>.cons r (ih n)
theorem bQ.drop {l:List α} {m:List β} (x:bQ R l m):∀ n,bQ R (l.drop n) (m.drop n):=by
 induction x with
 | nil=>intro n;rw [List.drop_nil,List.drop_nil];exact .nil
 | cons r x ih=>exact fun n=>Nat.casesOn n (.cons r x) fun n=>ih n
end
section
variable (W:Wd)
noncomputable def bR (F:Addr→Prop) (h:Heap):List T→List Value→Prop:=bQ (VR W F h)
noncomputable def cL (F:Addr→Prop) (h:Heap):List (bL×T)→List DictEntry→Prop:=bQ fun p e=>VR W F h (cb p.1) e.key∧e.hash=eX W p.1∧VR W F h p.2 e.val
noncomputable def jG (F:Addr→Prop) (h:Heap):List (Nat×T)→List DictEntry→Prop:=bQ fun p e=>(∃ x u,bm p.1 x∧e.key=.str x u)∧VR W F h p.2 e.val
end
section
variable {W:Wd} {F:Addr→Prop} {h:Heap}
theorem bR.nil:bR W F h [] []:=bQ.nil
theorem bR.cons {x:T} {v:Value} {xs:List T} {vs:List Value} (a:VR W F h x v) (r:bR W F h xs vs):bR W F h (x::xs) (v::vs):=bQ.cons a r
theorem cL.nil:cL W F h [] []:=bQ.nil
theorem cL.cons {k:bL} {t:T} {e:DictEntry} {kvs:List (bL×T)} {es:List DictEntry} (a:VR W F h (cb k) e.key) (b:e.hash=eX W k) (c:VR W F h t e.val) (r:cL W F h kvs es):cL W F h ((k,t)::kvs) (e::es):=bQ.cons ⟨a,b,c⟩ r
theorem jG.nil:jG W F h [] []:=bQ.nil
theorem jG.cons {i:Nat} {x:Str} {u:Tok} {t:T} {e:DictEntry} {fs:List (Nat×T)} {es:List DictEntry} (a:bm i x) (b:e.key=.str x u) (c:VR W F h t e.val) (r:jG W F h fs es):jG W F h ((i,t)::fs) (e::es):=bQ.cons ⟨⟨x,u,a,b⟩,c⟩ r
theorem VR.tup {xs:List T} {vs:List Value} {a:Addr} {n:Nat} (f:F a) (g:h.get? a=some (seqObj "tuple" vs.toArray n)) (l:xs.length≤SZ) (r:bR W F h xs vs):VR W F h (.tup xs) (.ref a):=.tup_ f g l (bQ.len r) (bQ.at r)
theorem VR.list {xs:List T} {vs:List Value} {a:Addr} {n:Nat} (f:F a) (g:h.get? a=some (seqObj "list" vs.toArray n)) (l:xs.length≤SZ) (r:bR W F h xs vs):VR W F h (.list xs) (.ref a):=.list_ f g l (bQ.len r) (bQ.at r)
theorem VR.dict {kvs:List (bL×T)} {es:List DictEntry} {a:Addr} {ep:Nat} (f:F a) (g:h.get? a=some (aL es ep)) (l:kvs.length≤SZ) (n:(kvs.map (·.1)).Nodup∧(a==sysModules)=false) (r:cL W F h kvs es):VR W F h (.dict kvs) (.ref a):=
 .dict_ f g l n (bQ.len r) (fun i p e a b=>(bQ.at r i p e a b).1) (fun i p e a b=>(bQ.at r i p e a b).2.1) fun i p e a b=>(bQ.at r i p e a b).2.2
theorem VR.dvals {kvs:List (bL×T)} {es:List DictEntry} {a d:Addr} {ep:Nat} (f:F a) (g:h.get? a=some ⟨.type "dict_values",Option.none,.fields #[.ref d],#[]⟩) (f':F d) (g':h.get? d=some (aL es ep)) (l:kvs.length≤SZ) (r:cL W F h kvs es):VR W F h (.dvals kvs) (.ref a):=
 .dvals_ f g f' g' l (bQ.len r) (fun i p e a b=>(bQ.at r i p e a b).1) (fun i p e a b=>(bQ.at r i p e a b).2.1) fun i p e a b=>(bQ.at r i p e a b).2.2
theorem VR.inst {c:Nat} {fs:List (Nat×T)} {es:List DictEntry} {a dx:Addr} {ep:Nat} (f:F a) (f':F dx) (g:h.get? a=some (instObj (W.ca c) dx)) (g':h.get? dx=some (aL es ep)) (l:fs.length≤100) (r:jG W F h fs es):VR W F h (.inst c fs) (.ref a):=
 .inst_ f f' g g' l (bQ.len r) (fun i p e a b=>(bQ.at r i p e a b).1) fun i p e a b=>(bQ.at r i p e a b).2
end
section
variable {W:Wd} {F F':Addr→Prop} {h h':Heap}
theorem mI.keeps {a:Addr} {xs:List Int} (x:mI W h a xs) (k:∀ o,h.get? a=some o→h'.get? a=some o):mI W h' a xs:=by
 obtain ⟨es,ep,t,ho,r,r'⟩:=x
 exact ⟨es,ep,t,k _ ho,r,r'⟩
theorem cV.length {es:Array (Int×Value)} {t:SetTable} {xs:List Int} (x:cV W es t xs):es.size=xs.length:=by
 have:=x.perm.length_eq
 rw [ba,eZ] at this
 exact this
theorem cV.key {es:Array (Int×Value)} {t:SetTable} {xs:List Int} (x:cV W es t xs) (k:Int):k∈xs↔∃ e∈es.toList,(intKind W.prog W.w).is k e.2=true:=by
 rw [← x.perm.mem_iff,bo]
 constructor
 ·rintro ⟨e,he,rfl⟩
  obtain ⟨k,u,rfl⟩:=x.els e he
  exact ⟨_,he,intKind_is _ _ k u⟩
 ·rintro ⟨e,he,hk⟩
  obtain ⟨k',u,rfl⟩:=x.els e he
  exact ⟨_,he,(intKind W.prog W.w).inj _ k' k (intKind_is _ _ k' u) hk⟩
theorem cV.elems {es:Array (Int×Value)} {t:SetTable} {xs:List Int} (x:cV W es t xs):ElemsOf (intKind W.prog W.w) es.toList:=fun e he=>by
 obtain ⟨k,u,rfl⟩:=x.els e he
 exact ⟨⟨k,intKind_is _ _ k u,rfl⟩,rfl⟩
theorem mI.of {a:Addr} {xs:List Int} (x:mI W h a xs):h.SetOf (intKind W.prog W.w) a (fun k=>xs.contains k) xs.length:=by
 obtain ⟨es,ep,t,ho,d,_⟩:=x
 refine ⟨_,es,ep,t,ho,⟨rfl,rfl,rfl⟩,rfl,d.elems,fun k=>?_,?_,d.tab.fits,d.length⟩
 ·rw [← d.key k];simp
 ·have:=d.few;have e:scanBound=4096:=rfl;lia
theorem VR.mono (hF:∀ a,F a→F' a) (hk:∀ a o,F a→h.get? a=some o→h'.get? a=some o) {t:T} {v:Value} (x:VR W F h t v):VR W F' h' t v:=by
 induction x with
 | none=>exact .none
 | bool b=>exact .bool b
 | int i t=>exact .int i t
 | str t n=>exact .str t n
 | tup_ f g l e _ ih=>exact .tup_ (hF _ f) (hk _ _ f g) l e ih
 | list_ f g l e _ ih=>exact .list_ (hF _ f) (hk _ _ f g) l e ih
 | dict_ f g l n e _ hh _ i1 i2=>exact .dict_ (hF _ f) (hk _ _ f g) l n e i1 hh i2
 | dvals_ f g f' g' l e _ hh _ i1 i2=>exact .dvals_ (hF _ f) (hk _ _ f g) (hF _ f') (hk _ _ f' g') l e i1 hh i2
 | set f l r=>exact .set (hF _ f) l (r.keeps fun o e=>hk _ o f e)
 | rng f r b c t n=>exact .rng (hF _ f) (hk _ _ f r) b c t n
 | inst_ f f' g g' l e hh _ ih=>exact .inst_ (hF _ f) (hF _ f') (hk _ _ f g) (hk _ _ f' g') l e hh ih
inductive Jx (W:Wd) (F:Addr→Prop) (h:Heap) (t:T) (ts:List T):List Value→Prop
 | mk (v:Value) (vs:List Value) (a:VR W F h t v) (r:bR W F h ts vs):Jx W F h t ts (v::vs)
theorem bR.inv {t:T} {ts:List T} {vs:List Value} (x:bR W F h (t::ts) vs):Jx W F h t ts vs:=by
 cases x with
 | cons a r=>exact ⟨_,_,a,r⟩
theorem bR.inv0 {vs:List Value} (x:bR W F h [] vs):vs=[]:=by cases x;rfl
theorem bR.mono (hF:∀ a,F a→F' a) (hk:∀ a o,F a→h.get? a=some o→h'.get? a=some o) {xs:List T} {vs:List Value} (x:bR W F h xs vs):bR W F' h' xs vs:=bQ.imp (fun _ _ r=>r.mono hF hk) x
inductive Qc (W:Wd) (F:Addr→Prop) (h:Heap) (t:T):List Value→Prop
 | mk (v:Value) (a:VR W F h t v):Qc W F h t [v]
inductive Qd (W:Wd) (F:Addr→Prop) (h:Heap) (t u:T):List Value→Prop
 | mk (v w:Value) (a:VR W F h t v) (b:VR W F h u w):Qd W F h t u [v,w]
theorem bR.one {t:T} {vs:List Value} (x:bR W F h [t] vs):Qc W F h t vs:=by
 obtain ⟨v,vs,a,r⟩:=x.inv
 rw [r.inv0];exact ⟨v,a⟩
theorem bR.two {t u:T} {vs:List Value} (x:bR W F h [t,u] vs):Qd W F h t u vs:=by
 obtain ⟨v,vs,a,r⟩:=x.inv
 obtain ⟨w,b⟩:=r.one
 exact ⟨v,w,a,b⟩
inductive I6 (W:Wd) (F:Addr→Prop) (h:Heap) (k:bL) (t:T) (kvs:List (bL×T)):List DictEntry→Prop
 | mk (e:DictEntry) (es:List DictEntry) (a:VR W F h (cb k) e.key) (b:e.hash=eX W k) (c:VR W F h t e.val) (r:cL W F h kvs es):I6 W F h k t kvs (e::es)
theorem cL.inv {k:bL} {t:T} {kvs:List (bL×T)} {es:List DictEntry} (x:cL W F h ((k,t)::kvs) es):I6 W F h k t kvs es:=by
 cases x with
 | cons a r=>exact ⟨_,_,a.1,a.2.1,a.2.2,r⟩
theorem cL.inv0 {es:List DictEntry} (x:cL W F h [] es):es=[]:=by cases x;rfl
theorem cL.mono (hF:∀ a,F a→F' a) (hk:∀ a o,F a→h.get? a=some o→h'.get? a=some o) {xs:List (bL×T)} {vs:List DictEntry} (x:cL W F h xs vs):cL W F' h' xs vs:=bQ.imp (fun _ _ r=>⟨r.1.mono hF hk,r.2.1,r.2.2.mono hF hk⟩) x
inductive Jz (W:Wd) (F:Addr→Prop) (h:Heap) (i:Nat) (t:T) (fs:List (Nat×T)):List DictEntry→Prop
 | mk (x:Str) (u:Tok) (e:DictEntry) (es:List DictEntry) (a:bm i x) (b:e.key=.str x u) (c:VR W F h t e.val) (r:jG W F h fs es):Jz W F h i t fs (e::es)
theorem jG.inv {i:Nat} {t:T} {fs:List (Nat×T)} {es:List DictEntry} (x:jG W F h ((i,t)::fs) es):Jz W F h i t fs es:=by
 cases x with
 | cons a r=>obtain ⟨⟨x,u,n,e⟩,c⟩:=a;exact ⟨x,u,_,_,n,e,c,r⟩
theorem jG.inv0 {es:List DictEntry} (x:jG W F h [] es):es=[]:=by cases x;rfl
theorem jG.mono (hF:∀ a,F a→F' a) (hk:∀ a o,F a→h.get? a=some o→h'.get? a=some o) {xs:List (Nat×T)} {vs:List DictEntry} (x:jG W F h xs vs):jG W F' h' xs vs:=bQ.imp (fun _ _ r=>⟨r.1,r.2.mono hF hk⟩) x
theorem bR.length {xs:List T} {vs:List Value} (x:bR W F h xs vs):xs.length=vs.length:=bQ.len x
theorem cL.length {xs:List (bL×T)} {vs:List DictEntry} (x:cL W F h xs vs):xs.length=vs.length:=bQ.len x
theorem jG.length {xs:List (Nat×T)} {vs:List DictEntry} (x:jG W F h xs vs):xs.length=vs.length:=bQ.len x
theorem bR.append {xs ys:List T} {us vs:List Value} (x:bR W F h xs vs) (y:bR W F h ys us):bR W F h (xs++ys) (vs++us):=bQ.append x y
theorem bR.get {xs:List T} {vs:List Value} (x:bR W F h xs vs) {i:Nat} {t:T} (e:xs[i]? = some t):∃ v,vs[i]? = some v∧VR W F h t v:=by
 have hi:i < vs.length:=x.length▸(g8.mp e).1
 exact ⟨_,cq hi,bQ.at x i _ _ e (cq hi)⟩
theorem bR.getv {xs:List T} {vs:List Value} (x:bR W F h xs vs) {i:Nat} {v:Value} (e:vs[i]? = some v):∃ t,xs[i]? = some t∧VR W F h t v:=by
 have hi:i < xs.length:=x.length.symm▸(g8.mp e).1
 exact ⟨_,cq hi,bQ.at x i _ _ (cq hi) e⟩
theorem bR.take {xs:List T} {vs:List Value} (x:bR W F h xs vs) (n:Nat):bR W F h (xs.take n) (vs.take n):=bQ.take x n
theorem bR.drop {xs:List T} {vs:List Value} (x:bR W F h xs vs) (n:Nat):bR W F h (xs.drop n) (vs.drop n):=bQ.drop x n
inductive gu (W:Wd) (F:Addr→Prop) (h:Heap) (as:List Addr):T→Value→Prop
 | list {xs:List T} {vs:List Value} {a:Addr} {n:Nat}:as=[a]→h.get? a=some (seqObj "list" vs.toArray n)→xs.length≤SZ→bR W F h xs vs→gu W F h as (.list xs) (.ref a)
 | dict {kvs:List (bL×T)} {es:List DictEntry} {a:Addr} {ep:Nat}:as=[a]→h.get? a=some (aL es ep)→kvs.length≤SZ→(kvs.map (·.1)).Nodup∧(a==sysModules)=false→cL W F h kvs es→gu W F h as (.dict kvs) (.ref a)
 | inst {c:Nat} {fs:List (Nat×T)} {es:List DictEntry} {a dx:Addr} {ep:Nat}:as=[a,dx]→h.get? a=some (instObj (W.ca c) dx)→h.get? dx=some (aL es ep)→fs.length≤100→jG W F h fs es→gu W F h as (.inst c fs) (.ref a)
theorem gu.mono {as:List Addr} {t:T} {v:Value} (hF:∀ a,F a→F' a) (hk:∀ a o,F a∨a∈as→h.get? a=some o→h'.get? a=some o) (x:gu W F h as t v):gu W F' h' as t v:=by
 have hk':=fun a o f=>hk a o (.inl f)
 induction x with
 | list e g l r=>exact .list e (hk _ _ (.inr (by rw [e];simp)) g) l (r.mono hF hk')
 | dict e g l n r=>exact .dict e (hk _ _ (.inr (by rw [e];simp)) g) l n (r.mono hF hk')
 | inst e g g' l r=>exact .inst e (hk _ _ (.inr (by rw [e];simp)) g) (hk _ _ (.inr (by rw [e];simp)) g') l (r.mono hF hk')
theorem gu.freeze {as:List Addr} {t:T} {v:Value} (x:gu W F h as t v):VR W (fun a=>F a∨a∈as) h t v:=by
 have up:∀ a,F a→F a∨a∈as:=fun _=>.inl
 induction x with
 | list e g l r=>exact .list (.inr (by rw [e];simp)) g l (r.mono up fun _ _ _ q=>q)
 | dict e g l n r=>exact .dict (.inr (by rw [e];simp)) g l n (r.mono up fun _ _ _ q=>q)
 | inst e g g' l r=>exact .inst (.inr (by rw [e];simp)) (.inr (by rw [e];simp)) g g' l (r.mono up fun _ _ _ q=>q)
structure cf (F:Addr→Prop) (s:Shared) (F':Addr→Prop) (s':Shared):Prop where
 gens:s'.gens=s.gens
 os:s'.os=s.os
 keep:∀ b o,s.heap.get? b=some o→s'.heap.get? b=some o
 mono:∀ a,F a→F' a
 fresh:∀ a,F' a→F a∨(s.heap.get? a=none∧∃ o,s'.heap.get? a=some o)
theorem cf.refl (F:Addr→Prop) (s:Shared):cf F s F s:=⟨rfl,rfl,am,fun _ e=>e,fun _=>.inl⟩
theorem cI {h h':Heap} (k:∀ b o,h.get? b=some o→h'.get? b=some o) {a:Addr} (e:h'.get? a=none):h.get? a=none:=by
 induction q:h.get? a with
 | none=>rfl
 | some o=>rw [k _ _ q] at e;exact nomatch e
theorem cf.trans {F'1 F'2 F'3:Addr→Prop} {s₁ s₂ s'3:Shared} (x:cf F'1 s₁ F'2 s₂) (y:cf F'2 s₂ F'3 s'3):cf F'1 s₁ F'3 s'3:=
 ⟨y.gens.trans x.gens,y.os.trans x.os,fun b o e=>y.keep _ _ (x.keep _ _ e),fun a e=>y.mono _ (x.mono _ e),fun a e=>(y.fresh a e).elim (fun q=>(x.fresh a q).imp id fun z=>⟨z.1,let ⟨o,h⟩:=z.2;⟨o,y.keep _ _ h⟩⟩) fun q=>.inr ⟨cI x.keep q.1,q.2⟩⟩
theorem cf.toks {s:Shared} (F:Addr→Prop) (t:Nat):cf F s F { s with toks:=t }:=⟨rfl,rfl,am,fun _ e=>e,fun _=>.inl⟩
theorem cf.push {s:Shared} (F:Addr→Prop) (o:Obj) (t:Nat):cf F s F { s with heap:=s.heap.push o,toks:=t }:=⟨rfl,rfl,fun _ _ e=>bU _ e,fun _ e=>e,fun _=>.inl⟩
theorem aS (h:Heap):h.get? h.objs.size=none:=by
 induction q:h.get? h.objs.size with
 | none=>rfl
 | some o=>exact absurd (ei q) (f7 _)
theorem cf.add {F:Addr→Prop} {s s':Shared} {as:List Addr} (x:cf F s F s') (h:∀ a∈as,s.heap.get? a=none) (l:∀ a∈as,∃ o,s'.heap.get? a=some o):cf F s (fun a=>F a∨a∈as) s':=
 ⟨x.gens,x.os,x.keep,fun _=>.inl,fun a e=>e.elim .inl fun q=>.inr ⟨h a q,l a q⟩⟩
theorem VR.grow {s s':Shared} {t:T} {v:Value} (x:VR W F s.heap t v) (g:cf F s F' s'):VR W F' s'.heap t v:=x.mono g.mono fun a o _ e=>g.keep a o e
theorem bR.grow {s s':Shared} {t:List T} {v:List Value} (x:bR W F s.heap t v) (g:cf F s F' s'):bR W F' s'.heap t v:=x.mono g.mono fun a o _ e=>g.keep a o e
theorem gu.grow {s s':Shared} {as:List Addr} {t:T} {v:Value} (x:gu W F s.heap as t v) (g:cf F s F' s'):gu W F' s'.heap as t v:=x.mono g.mono fun a o _ e=>g.keep a o e
end
end
end Nz
namespace Nz
open PySem PyProof.Rows PySem.W
variable {h':Heap} {W:Wd} {F:Addr→Prop} {as:List Addr} {v va vb vo:Value} {a C:Addr} {G G'1 G':List bY} {s s':Shared} {α:Type} {xs:List T} {kvs b:List (bL×T)} {es:List DictEntry} {i n:Nat} {vs us:List Value} {A:Around} {ks:List Int} {k:bL} {Q:Unit→Shared→Prop} {es':Array (Int×Value)}
section
set_option genInjectivity true
inductive dq where | loc (L:Addr) (x:Str) | cell (c:Addr)
noncomputable def dq.addr:dq→Addr | .loc L _=>L | .cell c=>c
structure bY where
 nm:Nm
 pl:dq
 own:List Addr
 fv:Value
 fo:List Addr
noncomputable def bY.sh (e:bY):Nm×dq×Value×List Addr:=(e.nm,e.pl,e.fv,e.fo)
noncomputable def dq.Holds (h:Heap):dq→Option Value→Prop
 | .loc L x,v=>∃ m,h.Ns L m∧m x=v
 | .cell c,v=>h.IsCell c v
theorem dq.Holds.keep {h:Heap} {p:dq} {v:Option Value} (x:p.Holds h v) (k:∀ o,h.get? p.addr=some o→h'.get? p.addr=some o):p.Holds h' v:=by
 induction p with
 | loc L n=>obtain ⟨m,⟨o,es,ep,ho,r⟩,e⟩:=x;exact ⟨m,⟨o,es,ep,k _ ho,r⟩,e⟩
 | cell c=>obtain ⟨o,ho,d⟩:=x;exact ⟨o,k _ ho,d⟩
theorem dq.Holds.live {h:Heap} {p:dq} {v:Option Value} (x:p.Holds h v):∃ o,h.get? p.addr=some o:=by
 induction p with
 | loc L n=>obtain ⟨m,⟨o,es,ep,ho,r⟩,e⟩:=x;exact ⟨o,ho⟩
 | cell c=>obtain ⟨o,ho,d⟩:=x;exact ⟨o,ho⟩
theorem dq.Holds.inj {h:Heap} {p:dq} {v u:Option Value} (x:p.Holds h v) (y:p.Holds h u):v=u:=by
 induction p with
 | loc L n=>obtain ⟨m,a,rfl⟩:=x;obtain ⟨m',b,rfl⟩:=y;exact a.agree b n
 | cell c=>
  obtain ⟨o,ho,d⟩:=x;obtain ⟨o',ho',d'⟩:=y
  rw [ho] at ho';obtain rfl:=az ho';rw [d] at d';cases d';rfl
theorem gu.live {h:Heap} {t:T} (x:gu W F h as t v) (ha:a∈as):∃ o,h.get? a=some o:=by
 induction x with
 | list e g l r=>rw [e] at ha;cases aV.mp ha;exact ⟨_,g⟩
 | dict e g l n r=>rw [e] at ha;cases aV.mp ha;exact ⟨_,g⟩
 | inst e g g' l r=>
  rw [e] at ha
  rcases aU.mp ha with rfl | ha
  ·exact ⟨_,g⟩
  ·cases aV.mp ha;exact ⟨_,g'⟩
section
variable (W:Wd)
noncomputable def jb (F:Addr→Prop) (h:Heap) (e:bY):Slot→Prop
 | .unb=>e.pl.Holds h none
 | .val t=>∃ v,e.pl.Holds h (some v)∧VR W F h t v
 | .own _ t=>∃ v,e.pl.Holds h (some v)∧gu W F h e.own t v
noncomputable def ib (F:Addr→Prop) (h:Heap):List bY→Env→Prop
 | []=>fun ρ=>ρ=[]
 | e::G=>fun l=>match l with
  | []=>False
  | p::ρ=>e.nm=p.1∧jb W F h e p.2∧ib F h G ρ
end
noncomputable def Ii (h:Heap) (e:bY):Slot→Prop
 | .own fx _=>if fx then e.pl.Holds h (some e.fv)∧e.own=e.fo else True
 | _=>True
noncomputable def rp (h:Heap):List bY→Env→Prop
 | []=>fun _=>True
 | e::G=>fun l=>match l with
  | []=>True
  | p::ρ=>Ii h e p.2∧rp h G ρ
noncomputable def ownOf (e:bY):Slot→List Addr
 | .own _ _=>e.own
 | _=>[]
noncomputable def bk:List bY→Env→List Addr
 | []=>fun _=>[]
 | e::G=>fun l=>match l with
  | []=>[]
  | p::ρ=>ownOf e p.2++bk G ρ
noncomputable def first (G:List bY) (x:Nm):Option bY:=G.find? fun e=>e.nm==x
section
variable {W:Wd} {F F':Addr→Prop} {h h':Heap}
theorem ib.length:∀ {ρ:Env},ib W F h G ρ→G.length=ρ.length:=by
 induction G with
 | nil=>intro ρ x;rw [show ρ=[] from x];rfl
 | cons e G ih=>
  intro ρ x
  induction ρ with
  | nil=>exact x.elim
  | cons p ρ=>exact aw (·+1) (ih x.2.2)
theorem cE {G'2:List bY} {ρ2:Env}:∀ {ρ1:Env},G'1.length=ρ1.length→(rp h (G'1++G'2) (ρ1++ρ2)↔rp h G'1 ρ1∧rp h G'2 ρ2):=by
 induction G'1 with
 | nil=>intro ρ1 l;rw [eC l.symm];exact ⟨fun x=>⟨trivial,x⟩,fun x=>x.2⟩
 | cons e G'1 ih=>
  intro ρ1 l
  induction ρ1 with
  | nil=>exact nomatch l
  | cons p ρ1=>exact (and_congr_right fun _=>ih (Nat.succ.inj l)).trans and_assoc.symm
theorem Ii.imp {e:bY} {s:Slot} (x:Ii h e s) (k:∀ v,e.pl.Holds h v→e.pl.Holds h' v):Ii h' e s:=by
 induction s with
 | own b t=>
  induction b with
  | true=>exact ⟨k _ x.1,x.2⟩
  | false=>trivial
 | _=>trivial
theorem rp.imp:∀ {ρ:Env},rp h G ρ→(∀ e∈G,∀ v,e.pl.Holds h v→e.pl.Holds h' v)→rp h' G ρ:=by
 induction G with
 | nil=>exact fun _ _=>trivial
 | cons e G ih=>
  intro ρ x k
  induction ρ with
  | nil=>trivial
  | cons p ρ=>
   exact ⟨x.1.imp (k e (.head _)),ih x.2 fun e' he=>k e' (.tail _ he)⟩
theorem cH {G'2:List bY} {ρ2:Env}:∀ {ρ1:Env},G'1.length=ρ1.length→(ib W F h (G'1++G'2) (ρ1++ρ2)↔ib W F h G'1 ρ1∧ib W F h G'2 ρ2):=by
 induction G'1 with
 | nil=>intro ρ1 l;rw [eC l.symm];exact ⟨fun x=>⟨rfl,x⟩,fun x=>x.2⟩
 | cons e G'1 ih=>
  intro ρ1 l
  induction ρ1 with
  | nil=>exact nomatch l
  | cons p ρ1=>exact (and_congr_right fun _=>(and_congr_right fun _=>ih (Nat.succ.inj l)).trans and_assoc.symm).trans and_assoc.symm
theorem b9 {G'2:List bY} {ρ2:Env}:∀ {ρ1:Env},G'1.length=ρ1.length→bk (G'1++G'2) (ρ1++ρ2)=bk G'1 ρ1++bk G'2 ρ2:=by
 induction G'1 with
 | nil=>intro ρ1 l;rw [eC l.symm];rfl
 | cons e G'1 ih=>
  intro ρ1 l
  induction ρ1 with
  | nil=>exact nomatch l
  | cons p ρ1=>exact (aw (_++·) (ih (Nat.succ.inj l))).trans (List.append_assoc ..).symm
theorem Env.get_cons {y x:Nm} {s:Slot} {ρ:Env}:Env.get ((y,s)::ρ) x=if y=x then s else ρ.get x:=rfl
theorem Env.set_cons {y x:Nm} {s v:Slot} {ρ:Env}:Env.set ((y,s)::ρ) x v=if y=x then (y,v)::ρ else (y,s)::ρ.set x v:=rfl
inductive Mr (G:List bY) (ρ:Env) (x:Nm) (e:bY):Prop where
 | mk (G'1 G'2:List bY) (ρ1 ρ2:Env) (s:Slot) (h1:G=G'1++e::G'2) (h2:ρ=ρ1++(x,s)::ρ2) (h3:G'1.length=ρ1.length) (h4:ρ.get x=s) (h5:∀ s',ρ.set x s'=ρ1++(x,s')::ρ2) (h6:e.nm=x) (h7:∀ e'∈G'1,e'.nm≠x)
theorem ib.split {x:Nm} {e:bY}:∀ {ρ:Env},ib W F h G ρ→first G x=some e→Mr G ρ x e:=by
 induction G with
 | nil=>intro ρ _ f;exact nn f
 | cons e' G ih=>
  intro ρ r f
  induction ρ with
  | nil=>exact r.elim
  | cons p ρ=>
   obtain ⟨y,s⟩:=p
   unfold first at f
   rw [List.find?_cons] at f
   have hn:e'.nm=y:=r.1
   by_cases q:e'.nm=x
   ·rw [show (e'.nm==x)=true from bp.mpr q] at f
    obtain rfl:=az f
    obtain rfl:y=x:=hn.symm.trans q
    exact ⟨[],G,[],ρ,s,rfl,rfl,rfl,au rfl,fun s'=>au rfl,q,fun _ h=>nomatch h⟩
   ·rw [show (e'.nm==x)=false from eF.mpr q] at f
    obtain ⟨G'1,G'2,ρ1,ρ2,s₁,h1,h2,h3,h4,h5,h6,h7⟩:=ih r.2.2 f
    have hy:y≠x:=fun z=>q (hn.trans z)
    exact ⟨e'::G'1,G'2,(y,s)::ρ1,ρ2,s₁,aw _ h1,aw _ h2,aw (·+1) h3,(av hy).trans h4,fun s'=>(av hy).trans (aw _ (h5 s')),h6,fun e'2 he=>(aU.mp he).elim (fun z=>z▸q) (h7 _)⟩
theorem ib.imp:∀ {ρ:Env},ib W F h G ρ→(∀ e∈G,∀ s,(∀ a∈ownOf e s,a∈bk G ρ)→jb W F h e s→jb W F' h' e s)→ib W F' h' G ρ:=by
 induction G with
 | nil=>exact fun x _=>x
 | cons e G ih=>
  intro ρ x k
  induction ρ with
  | nil=>exact x
  | cons p ρ=>exact ⟨x.1,k e (.head _) _ (fun a ha=>eW _ ha) x.2.1,ih x.2.2 fun e' he s hs=>k e' (.tail _ he) s fun a ha=>du _ (hs a ha)⟩
theorem jb.imp {e:bY} {s:Slot} (x:jb W F h e s) (hp:∀ v,e.pl.Holds h v→e.pl.Holds h' v) (hF:∀ a,F a→F' a) (hk:∀ a o,F a∨a∈ownOf e s→h.get? a=some o→h'.get? a=some o):jb W F' h' e s:=by
 induction s with
 | unb=>exact hp _ x
 | val t=>obtain ⟨v,a,b⟩:=x;exact ⟨v,hp _ a,b.mono hF fun a o f=>hk a o (.inl f)⟩
 | own fx t=>obtain ⟨v,a,b⟩:=x;exact ⟨v,hp _ a,b.mono hF hk⟩
theorem ib.live:∀ {ρ:Env},ib W F h G ρ→a∈bk G ρ→∃ o,h.get? a=some o:=by
 induction G with
 | nil=>intro ρ _ ha;exact nomatch ha
 | cons e G ih=>
  intro ρ x ha
  induction ρ with
  | nil=>exact x.elim
  | cons p ρ=>
   rcases cD.mp ha with ha | ha
   ·have r:=x.2.1
    generalize p.2=s at ha r
    induction s with
    | own fx t=>obtain ⟨v,_,b⟩:=r;exact b.live ha
    | _=>exact nomatch ha
   ·exact ih x.2.2 ha
theorem jb.holds {e:bY} {s:Slot} (x:jb W F h e s):∃ v,e.pl.Holds h v:=by
 induction s with
 | unb=>exact ⟨_,x⟩
 | val t=>obtain ⟨v,a,_⟩:=x;exact ⟨_,a⟩
 | own fx t=>obtain ⟨v,a,_⟩:=x;exact ⟨_,a⟩
theorem ib.holds {e:bY}:∀ {ρ:Env},ib W F h G ρ→e∈G→∃ v,e.pl.Holds h v:=by
 induction G with
 | nil=>intro ρ _ he;exact nomatch he
 | cons e' G ih=>
  intro ρ x he
  induction ρ with
  | nil=>exact x.elim
  | cons p ρ=>
   rcases aU.mp he with rfl | he
   ·exact x.2.1.holds
   ·exact ih x.2.2 he
theorem ib.liveP {e:bY} {ρ:Env} (x:ib W F h G ρ) (m:e∈G):∃ o,h.get? e.pl.addr=some o:=(x.holds m).elim fun _ h=>h.live
end
structure St (W:Wd) (F:Addr→Prop) (G:List bY) (ρ:Env) (s:Shared):Prop where
 env:ib W F s.heap G ρ
 world:∀ b o,W.h0.get? b=some o→s.heap.get? b=some o
 base:∀ a,W.F0 a→F a
 live:∀ a,F a→∃ o,s.heap.get? a=some o
 places:(G.map (·.pl)).Nodup
 nodup:(bk G ρ).Nodup
 ownF:∀ a∈bk G ρ,¬ F a
 ownP:∀ a∈bk G ρ,∀ e∈G,e.pl.addr≠a
 plF:∀ e∈G,¬ F e.pl.addr
 new:∀ a∈bk G ρ,W.h0.get? a=none
 newP:∀ e∈G,W.h0.get? e.pl.addr=none
 fix:rp s.heap G ρ
structure eR (F:Addr→Prop) (G:List bY) (ρ:Env) (s:Shared) (F':Addr→Prop) (G':List bY) (ρ':Env) (s':Shared):Prop where
 gens:s'.gens=s.gens
 os:s'.os=s.os
 mono:∀ a,F a→F' a
 keep:∀ b o,s.heap.get? b=some o→b∉bk G ρ→(∀ e∈G,e.pl.addr≠b)→s'.heap.get? b=some o
 freshF:∀ a,F' a→F a∨s.heap.get? a=none∨a∈bk G ρ
 freshO:∀ a∈bk G' ρ',a∈bk G ρ∨s.heap.get? a=none
 lives:∀ b,s'.heap.get? b=none→s.heap.get? b=none
 sh:G'.map bY.sh=G.map bY.sh
theorem eR.refl {ρ:Env}:eR F G ρ s F G ρ s:=
 ⟨rfl,rfl,fun _ h=>h,fun _ _ h _ _=>h,fun _=>.inl,fun _=>.inl,fun _ h=>h,rfl⟩
theorem wF (sh:G'.map bY.sh=G.map bY.sh) {e:bY} (he:e∈G'):∃ e'∈G,e'.nm=e.nm∧e'.pl=e.pl:=by
 have:e.sh∈G.map bY.sh:=sh▸List.mem_map_of_mem (f:=bY.sh) he
 obtain ⟨e',h1,h2⟩:=bo.mp this
 exact ⟨e',h1,aw (·.1) h2,aw (·.2.1) h2⟩
theorem eR.trans {F'1 F'2 F'3:Addr→Prop} {G'2 G'3:List bY} {ρ1 ρ2 ρ3:Env} {s₁ s₂ s'3:Shared} (x:eR F'1 G'1 ρ1 s₁ F'2 G'2 ρ2 s₂) (y:eR F'2 G'2 ρ2 s₂ F'3 G'3 ρ3 s'3):eR F'1 G'1 ρ1 s₁ F'3 G'3 ρ3 s'3 where
 gens:=y.gens.trans x.gens
 os:=y.os.trans x.os
 mono:=fun a h=>y.mono _ (x.mono _ h)
 keep:=fun b o h hn hp=>y.keep _ _ (x.keep _ _ h hn hp) (fun hm=>by
  rcases x.freshO _ hm with q | q
  ·exact hn q
  ·rw [h] at q;exact nomatch q) fun e he=>by
   obtain ⟨e',h1,_,h2⟩:=wF x.sh he
   rw [← h2];exact hp _ h1
 freshF:=fun a h=>by
  rcases y.freshF _ h with q | q | q
  ·exact x.freshF _ q
  ·exact .inr (.inl (x.lives _ q))
  ·rcases x.freshO _ q with z | z
   ·exact .inr (.inr z)
   ·exact .inr (.inl z)
 freshO:=fun a h=>by
  rcases y.freshO _ h with q | q
  ·exact x.freshO _ q
  ·exact .inr (x.lives _ q)
 lives:=fun b h=>x.lives _ (y.lives _ h)
 sh:=y.sh.trans x.sh
structure b2 (F:Addr→Prop) (G:List bY) (ρ:Env) (s:Shared) (F':Addr→Prop) (ρ':Env) (s':Shared):Prop where
 step:eR F G ρ s F' G ρ' s'
 pl:∀ e∈G,∀ o,s.heap.get? e.pl.addr=some o→s'.heap.get? e.pl.addr=some o
 own:∀ a∈bk G ρ',a∈bk G ρ
theorem b2.refl {ρ:Env}:b2 F G ρ s F ρ s:=⟨.refl,fun _ _ _ h=>h,fun _ h=>h⟩
theorem b2.trans {F'1 F'2 F'3:Addr→Prop} {ρ1 ρ2 ρ3:Env} {s₁ s₂ s'3:Shared} (x:b2 F'1 G ρ1 s₁ F'2 ρ2 s₂) (y:b2 F'2 G ρ2 s₂ F'3 ρ3 s'3):b2 F'1 G ρ1 s₁ F'3 ρ3 s'3:=
 ⟨x.step.trans y.step,fun e he o h=>y.pl e he o (x.pl e he o h),fun a h=>x.own a (y.own a h)⟩
section
variable {W:Wd} {F F':Addr→Prop} {G:List bY} {ρ ρ':Env} {s s':Shared}
theorem eR.vr (y:eR F G ρ s F' G' ρ' s') (x:St W F G ρ s) {t:T} (r:VR W F s.heap t v):VR W F' s'.heap t v:=
 r.mono y.mono fun a o f e=>y.keep a o e (fun m=>x.ownF _ m f) fun e he q=>x.plF e he (q▸f)
theorem eR.vrs (y:eR F G ρ s F' G' ρ' s') (x:St W F G ρ s) {t:List T} {v:List Value} (r:bR W F s.heap t v):bR W F' s'.heap t v:=
 r.mono y.mono fun a o f e=>y.keep a o e (fun m=>x.ownF _ m f) fun e he q=>x.plF e he (q▸f)
theorem St.grow (x:St W F G ρ s) (g:cf F s F' s'):St W F' G ρ s'∧b2 F G ρ s F' ρ s':=by
 have lO:∀ a∈bk G ρ,s.heap.get? a≠none:=fun a ha e=>by obtain ⟨o,h⟩:=x.env.live ha;rw [h] at e;exact nomatch e
 have lP:∀ e∈G,s.heap.get? e.pl.addr≠none:=fun a ha e=>by obtain ⟨o,h⟩:=x.env.liveP ha;rw [h] at e;exact nomatch e
 refine ⟨⟨x.env.imp fun e he s hs r=>r.imp (fun v q=>q.keep fun o=>g.keep _ o) g.mono fun a o _=>g.keep a o,fun b o e=>g.keep _ _ (x.world _ _ e),fun a e=>g.mono _ (x.base _ e),fun a f=>(g.fresh _ f).elim (fun q=>let ⟨o,h⟩:=x.live a q;⟨o,g.keep _ _ h⟩) (·.2),x.places,x.nodup,
  fun a ha f=>(g.fresh _ f).elim (x.ownF _ ha) (fun q=>lO a ha q.1),x.ownP,fun e he f=>(g.fresh _ f).elim (x.plF _ he) (fun q=>lP e he q.1),x.new,x.newP,x.fix.imp fun e he v q=>q.keep fun o=>g.keep _ o⟩,
  ⟨⟨g.gens,g.os,g.mono,fun b o e _ _=>g.keep _ _ e,fun a e=>(g.fresh _ e).elim .inl fun q=>.inr (.inl q.1),fun a=>.inl,fun b e=>cI g.keep e,rfl⟩,fun e he o q=>g.keep _ _ q,fun _ h=>h⟩⟩
theorem t6 {l'1 o o' l'2:List α} (h:(l'1++(o++l'2)).Nodup) (hn:o'.Nodup) (hd:∀ a∈o',a∉l'1∧a∉l'2):(l'1++(o'++l'2)).Nodup:=by
 rw [cF] at h ⊢
 obtain ⟨h1,h2,h3⟩:=h
 rw [cF] at h2 ⊢
 refine ⟨h1,⟨hn,h2.2.1,fun a ha b hb e=>(hd a ha).2 (e▸hb)⟩,fun a ha b hb e=>?_⟩
 rcases cD.mp hb with q | q
 ·exact (hd b q).1 (e▸ha)
 ·exact h3 a ha b (du _ q) e
theorem St.look (x:St W F G ρ s) {n:Nm} {e:bY} (f:first G n=some e):jb W F s.heap e (ρ.get n):=by
 obtain ⟨G'1,G'2,ρ1,ρ2,sl,rfl,rfl,hl,hg,hs,hn,_⟩:=x.env.split f
 rw [hg]
 have:=(cH hl).mp x.env
 exact this.2.2.1
theorem St.freeze (x:St W F G ρ s) {n:Nm} {e:bY} {fx:Bool} {t:T} (f:first G n=some e) (hn:ρ.get n=.own fx t) :
  St W (fun a=>F a∨a∈e.own) G (ρ.set n (.val t)) s∧b2 F G ρ s (fun a=>F a∨a∈e.own) (ρ.set n (.val t)) s∧∃ v,e.pl.Holds s.heap (some v)∧VR W (fun a=>F a∨a∈e.own) s.heap t v:=by
 obtain ⟨G'1,G'2,ρ1,ρ2,sl,rfl,rfl,hl,hg,hs,hne,_⟩:=x.env.split f
 rw [hn] at hg;subst hg
 rw [hs]
 have E:=(cH hl).mp x.env
 have X:=(cE hl).mp x.fix
 obtain ⟨v,hv,ho⟩:=E.2.2.1
 have U:∀ a,F a→F a∨a∈e.own:=fun _=>.inl
 have O:bk (G'1++e::G'2) (ρ1++(n,.own fx t)::ρ2)=bk G'1 ρ1++(e.own++bk G'2 ρ2):=by rw [b9 hl];rfl
 have O':bk (G'1++e::G'2) (ρ1++(n,.val t)::ρ2)=bk G'1 ρ1++bk G'2 ρ2:=by rw [b9 hl];rfl
 have sub:∀ a∈bk (G'1++e::G'2) (ρ1++(n,.val t)::ρ2),a∈bk (G'1++e::G'2) (ρ1++(n,.own fx t)::ρ2):=fun a ha=>by
  rw [O'] at ha;rw [O]
  rcases cD.mp ha with q | q
  ·exact eW _ q
  ·exact du _ (du _ q)
 have inO:∀ a∈e.own,a∈bk (G'1++e::G'2) (ρ1++(n,.own fx t)::ρ2):=fun a ha=>by rw [O];exact du _ (eW _ ha)
 have nd:=x.nodup
 rw [O] at nd
 have same:∀ (e':bY) (sl:Slot),jb W F s.heap e' sl→jb W (fun a=>F a∨a∈e.own) s.heap e' sl:=fun e' sl r=>r.imp (fun _ q=>q) U fun _ _ _ q=>q
 have dis:∀ a∈bk (G'1++e::G'2) (ρ1++(n,.val t)::ρ2),a∉e.own:=fun a ha hm=>by
  rw [O'] at ha
  rw [cF] at nd
  rcases cD.mp ha with q | q
  ·exact nd.2.2 a q a (eW _ hm) rfl
  ·exact (cF.mp nd.2.1).2.2 a hm a q rfl
 refine ⟨⟨(cH hl).mpr ⟨E.1.imp fun e' _ sl _ r=>same e' sl r,E.2.1,⟨v,hv,ho.freeze⟩,E.2.2.2.imp fun e' _ sl _ r=>same e' sl r⟩,x.world,fun a h=>.inl (x.base _ h),fun a f=>f.elim (x.live a) (fun q=>x.env.live (inO a q)),x.places,?_,fun a ha f=>?_,fun a ha=>x.ownP a (sub a ha),fun e' he f=>?_,fun a ha=>x.new a (sub a ha),x.newP,(cE hl).mpr ⟨X.1,trivial,X.2.2⟩⟩,
  ⟨⟨rfl,rfl,U,fun b o h _ _=>h,fun a h=>h.elim .inl fun q=>.inr (.inr (inO a q)),fun a h=>.inl (sub a h),fun _ h=>h,rfl⟩,fun _ _ _ h=>h,sub⟩,v,hv,ho.freeze⟩
 ·rw [O'];have:=t6 (o':=[]) nd cJ (fun a h=>by exact nomatch h);simpa using this
 ·exact f.elim (x.ownF a (sub a ha)) (dis a ha)
 ·exact f.elim (x.plF e' he) fun q=>x.ownP _ (inO _ q) e' he rfl
theorem St.mutateF (x:St W F G ρ s) {n:Nm} {e:bY} {fx:Bool} {t t':T} (f:first G n=some e) (hn:ρ.get n=.own fx t) (hv:e.pl.Holds s.heap (some v)) (hw:gu W F' s'.heap e.own t' v)
  (hk:∀ b o,b∉e.own→s.heap.get? b=some o→s'.heap.get? b=some o) (hgn:s'.gens=s.gens) (hos:s'.os=s.os) (hm:∀ a,F a→F' a) (hfr:∀ a,F' a→F a∨(s.heap.get? a=none∧∃ o,s'.heap.get? a=some o)) :
  St W F' G (ρ.set n (.own fx t')) s'∧b2 F G ρ s F' (ρ.set n (.own fx t')) s':=by
 have lO:∀ a∈bk G ρ,s.heap.get? a≠none:=fun a ha e=>by obtain ⟨o,h⟩:=x.env.live ha;rw [h] at e;exact nomatch e
 have lP:∀ e∈G,s.heap.get? e.pl.addr≠none:=fun a ha e=>by obtain ⟨o,h⟩:=x.env.liveP ha;rw [h] at e;exact nomatch e
 obtain ⟨G'1,G'2,ρ1,ρ2,sl,rfl,rfl,hl,hg,hs,hne,_⟩:=x.env.split f
 rw [hn] at hg;subst hg
 rw [hs]
 have E:=(cH hl).mp x.env
 have O:bk (G'1++e::G'2) (ρ1++(n,.own fx t)::ρ2)=bk G'1 ρ1++(e.own++bk G'2 ρ2):=by rw [b9 hl];rfl
 have O':bk (G'1++e::G'2) (ρ1++(n,.own fx t')::ρ2)=bk (G'1++e::G'2) (ρ1++(n,.own fx t)::ρ2):=by rw [O,b9 hl];rfl
 have inO:∀ a∈e.own,a∈bk (G'1++e::G'2) (ρ1++(n,.own fx t)::ρ2):=fun a ha=>by rw [O];exact du _ (eW _ ha)
 have nd:=x.nodup
 rw [O] at nd
 have keepP:∀ e'∈G'1++e::G'2,∀ o,s.heap.get? e'.pl.addr=some o→s'.heap.get? e'.pl.addr=some o:=fun e' he o=>hk _ _ fun q=>x.ownP _ (inO _ q) e' he rfl
 have keepF:∀ a o,F a→s.heap.get? a=some o→s'.heap.get? a=some o:=fun a o f=>hk a o fun q=>x.ownF _ (inO a q) f
 have fixM:rp s'.heap (G'1++e::G'2) (ρ1++(n,.own fx t')::ρ2):=by
  have X:=(cE hl).mp (x.fix.imp fun e' he v q=>q.keep (keepP e' he))
  refine (cE hl).mpr ⟨X.1,?_,X.2.2⟩
  have:=X.2.1
  induction fx with
  | true=>exact this
  | false=>trivial
 have lives:∀ b,s'.heap.get? b=none→s.heap.get? b=none:=fun b hb=>by
  induction q:s.heap.get? b with
  | none=>rfl
  | some o=>
   by_cases hm:b∈e.own
   ·obtain ⟨o',h'⟩:=hw.live hm;rw [h'] at hb;exact nomatch hb
   ·rw [hk _ _ hm q] at hb;exact nomatch hb
 refine ⟨⟨(cH hl).mpr ⟨E.1.imp fun e' he sl hsl r=>r.imp (fun _ q=>q.keep (keepP e' (eW _ he))) hm fun a o c=>?_,E.2.1,⟨v,hv.keep (keepP e (by simp)),hw⟩,E.2.2.2.imp fun e' he sl hsl r=>r.imp (fun _ q=>q.keep (keepP e' (du _ (.tail _ he)))) hm fun a o c=>?_⟩,
  fun b o h=>hk _ _ (fun q=>by have:=x.new _ (inO _ q);rw [h] at this;exact nomatch this) (x.world _ _ h),fun a h=>hm a (x.base a h),fun a f=>(hfr a f).elim (fun q=>let ⟨o,h⟩:=x.live a q;⟨o,keepF a o q h⟩) (·.2),x.places,by rw [O'];exact x.nodup,
  fun a ha f=>by rw [O'] at ha;exact (hfr a f).elim (x.ownF a ha) (fun q=>lO a ha q.1),by rw [O'];exact x.ownP,fun e' he f=>(hfr _ f).elim (x.plF e' he) (fun q=>lP e' he q.1),by rw [O'];exact x.new,x.newP,fixM⟩,
  ⟨⟨hgn,hos,hm,fun b o h hb _=>hk _ _ (fun q=>hb (inO _ q)) h,fun a h=>(hfr a h).elim .inl fun q=>.inr (.inl q.1),fun a h=>.inl (O'▸h),lives,rfl⟩,keepP,fun a h=>O'▸h⟩⟩
 ·rw [cF] at nd
  exact c.elim (keepF a o) fun q=>hk a o fun m=>nd.2.2 a (hsl a q) a (eW _ m) rfl
 ·rw [cF] at nd
  exact c.elim (keepF a o) fun q=>hk a o fun m=>(cF.mp nd.2.1).2.2 a m a (hsl a q) rfl
theorem St.mutate (x:St W F G ρ s) {n:Nm} {e:bY} {fx:Bool} {t t':T} (f:first G n=some e) (hn:ρ.get n=.own fx t) (hv:e.pl.Holds s.heap (some v)) (hw:gu W F s'.heap e.own t' v)
  (hk:∀ b o,b∉e.own→s.heap.get? b=some o→s'.heap.get? b=some o) (hgn:s'.gens=s.gens) (hos:s'.os=s.os):St W F G (ρ.set n (.own fx t')) s'∧b2 F G ρ s F (ρ.set n (.own fx t')) s':=
 x.mutateF f hn hv hw hk hgn hos (fun _ h=>h) fun _=>.inl
theorem Ng {e:bY} {sl:Slot} (h:a∈ownOf { e with own:=as } sl):a∈as:=by induction sl<;>first | exact h | exact nomatch h
theorem St.store {F'0:Addr→Prop} {G'0:List bY} {ρ0:Env} {s'0:Shared} (x:St W F G ρ s) (y:eR F'0 G'0 ρ0 s'0 F G ρ s) {n:Nm} {e:bY} {sl':Slot} (f:first G n=some e)
  (hk:∀ b o,b≠e.pl.addr→s.heap.get? b=some o→s'.heap.get? b=some o) (hoth:∀ p:dq,p≠e.pl→∀ v,p.Holds s.heap v→p.Holds s'.heap v) (hsl:jb W F s'.heap { e with own:=as } sl')
  (ho:(ownOf { e with own:=as } sl').Nodup) (hF:∀ a∈ownOf { e with own:=as } sl',¬ F a) (hP:∀ a∈ownOf { e with own:=as } sl',∀ e'∈G,e'.pl.addr≠a) (hO:∀ a∈ownOf { e with own:=as } sl',a∉bk G ρ)
  (hN:∀ a∈ownOf { e with own:=as } sl',W.h0.get? a=none) (hS:∀ a∈ownOf { e with own:=as } sl',s'0.heap.get? a=none) (hnf:∀ t,sl'≠.own true t) (hgn:s'.gens=s.gens) (hos:s'.os=s.os) :
  ∃ G',(as=e.own→G'=G)∧(∀ a∈bk G' (ρ.set n sl'),a∈ownOf { e with own:=as } sl'∨a∈bk G ρ)∧St W F G' (ρ.set n sl') s'∧eR F'0 G'0 ρ0 s'0 F G' (ρ.set n sl') s':=by
 obtain ⟨G'1,G'2,ρ1,ρ2,sl,rfl,rfl,hl,hg,hs,hne,_⟩:=x.env.split f
 rw [hs]
 have E:=(cH hl).mp x.env
 generalize hO':ownOf { e with own:=as } sl'=o' at *
 have O:bk (G'1++e::G'2) (ρ1++(n,sl)::ρ2)=bk G'1 ρ1++(ownOf e sl++bk G'2 ρ2):=by rw [b9 hl];rfl
 have O':bk (G'1++{ e with own:=as }::G'2) (ρ1++(n,sl')::ρ2)=bk G'1 ρ1++(o'++bk G'2 ρ2):=by rw [b9 hl,← hO'];rfl
 have sub:∀ a∈bk (G'1++{ e with own:=as }::G'2) (ρ1++(n,sl')::ρ2),a∈o'∨a∈bk (G'1++e::G'2) (ρ1++(n,sl)::ρ2):=fun a ha=>by
  rw [O'] at ha;rw [O]
  rcases cD.mp ha with q | q
  ·exact .inr (eW _ q)
  ·rcases cD.mp q with q | q
   ·exact .inl q
   ·exact .inr (du _ (du _ q))
 have nd:=x.nodup
 rw [O] at nd
 have shM:(G'1++{ e with own:=as }::G'2).map bY.sh=(G'1++e::G'2).map bY.sh:=by simp [bY.sh]
 have plM:(G'1++{ e with own:=as }::G'2).map (·.pl)=(G'1++e::G'2).map (·.pl):=by simp
 have inG:∀ e'∈G'1++{ e with own:=as }::G'2,∃ e'2∈G'1++e::G'2,e'2.pl=e'.pl:=fun e' he=>by
  obtain ⟨e'2,h1,_,h2⟩:=wF shM he;exact ⟨e'2,h1,h2⟩
 have neP:∀ e'∈G'1,e'.pl≠e.pl:=fun e' he q=>by
  have:=x.places
  rw [dK,cF] at this
  exact this.2.2 _ (List.mem_map_of_mem he) _ (List.mem_map_of_mem (List.Mem.head _)) q
 have neP':∀ e'∈G'2,e'.pl≠e.pl:=fun e' he q=>by
  have:=x.places
  rw [dK,cF,c8,cO] at this
  exact this.2.1.1 (q▸List.mem_map_of_mem he)
 have keepF:∀ a o,F a→s.heap.get? a=some o→s'.heap.get? a=some o:=fun a o f=>hk a o fun q=>x.plF e (by simp) (q▸f)
 have keepO:∀ a o,a∈bk (G'1++e::G'2) (ρ1++(n,sl)::ρ2)→s.heap.get? a=some o→s'.heap.get? a=some o:=fun a o m=>hk a o fun q=>x.ownP a m e (by simp) q.symm
 have liveE:∃ o,s'.heap.get? e.pl.addr=some o:=by
  induction sl' with
  | unb=>exact dq.Holds.live (p:=e.pl) hsl
  | val t=>obtain ⟨v,q,_⟩:=hsl;exact dq.Holds.live (p:=e.pl) q
  | own fx t=>obtain ⟨v,q,_⟩:=hsl;exact dq.Holds.live (p:=e.pl) q
 have lives:∀ b,s'.heap.get? b=none→s.heap.get? b=none:=fun b hb=>by
  induction q:s.heap.get? b with
  | none=>rfl
  | some o=>
   by_cases hm:b=e.pl.addr
   ·obtain ⟨o',h'⟩:=liveE;rw [hm,h'] at hb;exact nomatch hb
   ·rw [hk _ _ hm q] at hb;exact nomatch hb
 refine ⟨G'1++{ e with own:=as }::G'2,(fun z=>by rw [z]),sub,⟨(cH hl).mpr ⟨E.1.imp fun e' he sl hsl r=>r.imp (hoth _ (neP e' he)) (fun _ h=>h) fun a o c=>?_,E.2.1,hsl,E.2.2.2.imp fun e' he sl hsl r=>r.imp (hoth _ (neP' e' he)) (fun _ h=>h) fun a o c=>?_⟩,
  fun b o h=>hk _ _ (fun q=>by have:=x.newP e (by simp);rw [← q,h] at this;exact nomatch this) (x.world _ _ h),x.base,fun a f=>let ⟨o,h⟩:=x.live a f;⟨o,keepF a o f h⟩,plM▸x.places,?_,fun a ha=>?_,fun a ha e' he=>?_,fun e' he=>?_,fun a ha=>?_,fun e' he=>?_,?_⟩,
  ⟨hgn.trans y.gens,hos.trans y.os,y.mono,fun b o h hb hp=>?_,y.freshF,fun a ha=>?_,fun b h=>y.lives _ (lives _ h),shM.trans y.sh⟩⟩
 ·exact c.elim (keepF a o) fun q=>keepO a o (by rw [O];exact eW _ (hsl a q))
 ·exact c.elim (keepF a o) fun q=>keepO a o (by rw [O];exact du _ (du _ (hsl a q)))
 ·rw [O']
  exact t6 nd ho fun a ha=>⟨fun q=>hO a ha (by rw [O];exact eW _ q),fun q=>hO a ha (by rw [O];exact du _ (du _ q))⟩
 ·exact (sub a ha).elim (hF a) (x.ownF a)
 ·obtain ⟨e'2,h1,h2⟩:=inG e' he
  rw [← h2]
  exact (sub a ha).elim (fun q=>hP a q _ h1) fun q=>x.ownP a q _ h1
 ·obtain ⟨e'2,h1,h2⟩:=inG e' he
  rw [← h2];exact x.plF _ h1
 ·exact (sub a ha).elim (hN a) (x.new a)
 ·obtain ⟨e'2,h1,h2⟩:=inG e' he
  rw [← h2];exact x.newP _ h1
 ·have X:=(cE hl).mp x.fix
  refine (cE hl).mpr ⟨X.1.imp fun e' he=>hoth _ (neP e' he),?_,X.2.2.imp fun e' he=>hoth _ (neP' e' he)⟩
  induction sl' with
  | own b t=>induction b with
   | true=>exact absurd rfl (hnf t)
   | false=>trivial
  | _=>trivial
 ·refine hk _ _ (fun q=>?_) (y.keep _ _ h hb hp)
  obtain ⟨e',h1,_,h2⟩:=wF y.sh (e:=e) (by simp)
  exact hp e' h1 (h2▸q.symm)
 ·exact (sub a ha).elim (fun q=>.inr (hS a q)) (y.freshO a)
theorem CR {h:Heap} {L:Addr} {n:Str} {m:Str→Option Value} {u:Option Value} (hn:h.Ns L m) (hn':h'.Ns L (fun y=>if y=n then u else m y)) (hs:Heap.SameBut L h h'):∀ p:dq,p≠.loc L n→∀ v,p.Holds h v→p.Holds h' v:=by
 intro p hp v hv
 induction p with
 | loc L' y=>
  by_cases q:L'=L
  ·subst q
   obtain ⟨m',a,b⟩:=hv
   have hy:y≠n:=fun z=>hp (by rw [z])
   refine ⟨_,hn',?_⟩
   rw [av hy,hn.agree a y];exact b
  ·exact hv.keep fun o e=>hs.extBut _ _ q e
 | cell c=>
  refine hv.keep fun o e=>hs.extBut _ _ (fun z=>?_) e
  obtain ⟨o',h1,h2⟩:=hv
  obtain ⟨o'2,es,ep,h3,h4,_⟩:=hn
  have z:c=L:=z
  rw [z,h3] at h1;obtain rfl:=az h1;rw [h4] at h2;cases h2
theorem yJ {h:Heap} {c:Addr} {u:Option Value} (hn:h.IsCell c u) (hs:Heap.SameBut c h h'):∀ p:dq,p≠.cell c→∀ v,p.Holds h v→p.Holds h' v:=by
 intro p hp v hv
 refine hv.keep fun o e=>hs.extBut _ _ (fun z=>?_) e
 induction p with
 | loc L' y=>
  obtain ⟨m,⟨o'2,es,ep,h3,h4,_⟩,_⟩:=hv
  obtain ⟨o',h1,h2⟩:=hn
  have z:L'=c:=z
  rw [z,h1] at h3;obtain rfl:=az h3;rw [h2] at h4;cases h4
 | cell c'=>exact hp (aw dq.cell z)
end
end
section
section
variable {W:Wd} {F F' F'0 F'1 F'2:Addr→Prop} {G G'0 H:List bY} {ρ ρ' ρ0 ρ1 ρ2:Env} {s s' s'0 s₁ s₂:Shared} {P:List Addr}
noncomputable def iq (W:Wd) (F:Addr→Prop) (G:List bY) (ρ:Env) (P:List Addr):Prop:=∀ a∈P,¬ F a∧a∉bk G ρ∧(∀ e∈G,e.pl.addr≠a)∧W.h0.get? a=none
theorem St.touch (x:St W F G ρ s) (hP:iq W F G ρ P) (hk:∀ b o,b∉P→s.heap.get? b=some o→s'.heap.get? b=some o):St W F G ρ s' where
 env:=x.env.imp fun e he sl hs r=>r.imp (fun v q=>q.keep fun o=>hk _ o fun m=>(hP _ m).2.2.1 e he rfl) (fun _ f=>f) fun a o c=>hk a o fun m=>c.elim (hP a m).1 fun q=>(hP a m).2.1 (hs a q)
 world:=fun b o e=>hk b o (fun m=>by rw [(hP b m).2.2.2] at e;exact nn e) (x.world b o e)
 base:=x.base
 live:=fun a f=>let ⟨o,e⟩:=x.live a f;⟨o,hk a o (fun m=>(hP a m).1 f) e⟩
 places:=x.places
 nodup:=x.nodup
 ownF:=x.ownF
 ownP:=x.ownP
 plF:=x.plF
 new:=x.new
 newP:=x.newP
 fix:=x.fix.imp fun e he v q=>q.keep fun o=>hk _ o fun m=>(hP _ m).2.2.1 e he rfl
theorem eR.touch (y:eR F'0 G'0 ρ0 s'0 F G ρ s) (hP:∀ a∈P,s'0.heap.get? a=none) (hk:∀ b o,b∉P→s.heap.get? b=some o→s'.heap.get? b=some o) (hg:s'.gens=s.gens) (ho:s'.os=s.os):eR F'0 G'0 ρ0 s'0 F G ρ s' where
 gens:=hg.trans y.gens
 os:=ho.trans y.os
 mono:=y.mono
 keep:=fun b o h hn hp=>hk b o (fun m=>by rw [hP b m] at h;exact nn h) (y.keep b o h hn hp)
 freshF:=y.freshF
 freshO:=y.freshO
 lives:=fun b h=>by
  induction q:s'0.heap.get? b with
  | none=>rfl
  | some o=>
   induction z:s.heap.get? b with
   | none=>rw [y.lives b z] at q;exact nn q
   | some o'=>rw [hk b o' (fun m=>by rw [hP b m] at q;exact nn q) z] at h;exact nomatch h
 sh:=y.sh
theorem iq.step (hP:iq W F G ρ P) (y:eR F G ρ s F' G' ρ' s') (hl:∀ a∈P,∃ o,s.heap.get? a=some o):iq W F' G' ρ' P:=fun a m=>by
 obtain ⟨h1,h2,h3,h4⟩:=hP a m
 obtain ⟨o,e⟩:=hl a m
 refine ⟨fun f=>?_,fun q=>?_,fun e' he=>?_,h4⟩
 ·rcases y.freshF a f with q | q | q
  ·exact h1 q
  ·rw [e] at q;exact nomatch q
  ·exact h2 q
 ·rcases y.freshO a q with q | q
  ·exact h2 q
  ·rw [e] at q;exact nomatch q
 ·obtain ⟨e'2,h,_,hp⟩:=wF y.sh he
  rw [← hp];exact h3 _ h
theorem iq.keep (hP:iq W F G ρ P) (y:eR F G ρ s F' G' ρ' s') (m:a∈P) {o:Obj} (e:s.heap.get? a=some o):s'.heap.get? a=some o:=y.keep a o e (hP a m).2.1 (hP a m).2.2.1
structure cG (H:List bY) (F:Addr→Prop) (G:List bY) (ρ:Env) (s:Shared) (F':Addr→Prop) (ρ':Env) (s':Shared):Prop where
 step:eR F G ρ s F' G ρ' s'
 pl:∀ e∈H,∀ o,s.heap.get? e.pl.addr=some o→s'.heap.get? e.pl.addr=some o
 own:∀ a∈bk G ρ',a∈bk G ρ
theorem cG.refl:cG H F G ρ s F ρ s:=⟨.refl,fun _ _ _ h=>h,fun _ h=>h⟩
theorem b2.h (y:b2 F G ρ s F' ρ' s') (hs:∀ e∈H,e∈G):cG H F G ρ s F' ρ' s':=⟨y.step,fun e he=>y.pl e (hs e he),y.own⟩
theorem cG.e (y:cG G F G ρ s F' ρ' s'):b2 F G ρ s F' ρ' s':=⟨y.step,y.pl,y.own⟩
theorem cG.trans (x:cG H F G ρ s F'1 ρ1 s₁) (y:cG H F'1 G ρ1 s₁ F'2 ρ2 s₂):cG H F G ρ s F'2 ρ2 s₂:=
 ⟨x.step.trans y.step,fun e he o h=>y.pl e he o (x.pl e he o h),fun a h=>x.own a (y.own a h)⟩
theorem cG.touch (y:cG H F'0 G ρ0 s'0 F ρ s) (hP:∀ a∈P,s'0.heap.get? a=none) (hH:∀ e∈H,∃ o,s'0.heap.get? e.pl.addr=some o) (hk:∀ b o,b∉P→s.heap.get? b=some o→s'.heap.get? b=some o) (hg:s'.gens=s.gens) (ho:s'.os=s.os):cG H F'0 G ρ0 s'0 F ρ s':=
 ⟨y.step.touch hP hk hg ho,fun e he o h=>hk _ o (fun m=>by rw [hP _ m] at h;exact nn h) (y.pl e he o h),y.own⟩
noncomputable def bP (C:Addr):List Str→List Nm→List bY
 | []=>fun _=>[]
 | x::xs=>fun l=>match l with
  | []=>[]
  | i::is=>⟨i,.loc C x,[],.none,[]⟩::bP C xs is
theorem tO {e:bY} {xs:List Str}:∀ {is:List Nm},e∈bP C xs is→∃ x,x∈xs∧e.pl=.loc C x∧e.own=[]:=by
 induction xs with
 | nil=>intro is h;exact nomatch h
 | cons x xs ih=>
  intro is h
  induction is with
  | nil=>exact nomatch h
  | cons i is=>
   rcases aU.mp h with rfl | h
   ·exact ⟨_,.head _,rfl,rfl⟩
   ·obtain ⟨x,m,r⟩:=ih h;exact ⟨x,.tail _ m,r⟩
theorem iH {e:bY} {xs:List Str} {is:List Nm} (h:e∈bP C xs is):e.pl.addr=C:=by obtain ⟨y,_,r,_⟩:=tO h;rw [r];rfl
theorem fg {xs:List Str}:∀ {is:List Nm},xs.length=is.length→(bP C xs is).length=is.length:=by
 induction xs with
 | nil=>intro is l;rw [eC l.symm];rfl
 | cons x xs ih=>
  intro is l
  induction is with
  | nil=>exact nomatch l
  | cons i is=>exact aw (·+1) (ih (Nat.succ.inj l))
theorem v7 {xs:List Str}:∀ {is:List Nm},xs.Nodup→((bP C xs is).map (·.pl)).Nodup:=by
 induction xs with
 | nil=>exact fun _=>cJ
 | cons x xs ih=>
  intro is h
  induction is with
  | nil=>exact cJ
  | cons i is=>
   have h:=cO.mp h
   refine cO.mpr ⟨fun m=>?_,ih h.2⟩
   obtain ⟨e,he,q⟩:=bo.mp m
   obtain ⟨y,hy,r,_⟩:=tO he
   exact h.1 ((dq.loc.inj (r.symm.trans q)).2▸hy)
theorem yu {h:Heap} (hn:h.Ns C fun _=>none) {xs:List Str}:∀ {is:List Nm},xs.length=is.length→ib W F h (bP C xs is) (is.map fun x=>(x,Slot.unb)):=by
 induction xs with
 | nil=>intro is l;rw [eC l.symm];rfl
 | cons x xs ih=>
  intro is l
  induction is with
  | nil=>exact nomatch l
  | cons i is=>exact ⟨rfl,⟨_,hn,rfl⟩,ih (Nat.succ.inj l)⟩
theorem xc:∀ {is:List Nm},bk G (is.map fun x=>(x,Slot.unb))=[]:=by
 induction G with
 | nil=>intro is;induction is<;>rfl
 | cons e G ih=>intro is;induction is with
  | nil=>rfl
  | cons i is=>exact ih
theorem zH {h:Heap}:∀ {is:List Nm},rp h G (is.map fun x=>(x,Slot.unb)):=by
 induction G with
 | nil=>intro is;trivial
 | cons e G ih=>intro is;induction is with
  | nil=>trivial
  | cons i is=>exact ⟨trivial,ih⟩
theorem nG {xs:List Str} {is:List Nm} (l:xs.length=is.length):bk (bP C xs is++G) (c9 is ρ)=bk G ρ:=by
 unfold c9
 rw [b9 (by rw [fg l,ba]),xc];rfl
theorem St.push (x:St W F G ρ s) {xs:List Str} {is:List Nm} (l:xs.length=is.length) (nd:xs.Nodup) (hC:s.heap.get? C=none) (hn:s'.heap.Ns C fun _=>none) (hk:∀ b o,s.heap.get? b=some o→s'.heap.get? b=some o) :
  St W F (bP C xs is++G) (c9 is ρ) s':=by
 have hCF:¬ F C:=fun f=>by obtain ⟨o,e⟩:=x.live C f;rw [hC] at e;exact nn e
 have hC0:W.h0.get? C=none:=by
  induction e:W.h0.get? C with
  | none=>rfl
  | some o=>rw [x.world C o e] at hC;exact nomatch hC
 have adC:∀ e∈bP C xs is,e.pl.addr=C:=fun e he=>iH he
 have neC:∀ e∈G,e.pl.addr≠C:=fun e he z=>by obtain ⟨o,h⟩:=x.env.liveP he;rw [z,hC] at h;exact nn h
 have nO:C∉bk G ρ:=fun m=>by obtain ⟨o,h⟩:=x.env.live m;rw [hC] at h;exact nn h
 have O:=nG (G:=G) (ρ:=ρ) (C:=C) l
 refine ⟨?_,fun b o e=>hk b o (x.world b o e),x.base,fun a f=>let ⟨o,e⟩:=x.live a f;⟨o,hk a o e⟩,?_,by rw [O];exact x.nodup,by rw [O];exact x.ownF,?_,?_,by rw [O];exact x.new,?_,?_⟩
 ·unfold c9
  exact (cH (by rw [fg l,ba])).mpr ⟨yu hn l,x.env.imp fun e he sl hs r=>r.imp (fun v q=>q.keep fun o=>hk _ o) (fun _ f=>f) fun a o _=>hk a o⟩
 ·rw [dK,cF]
  refine ⟨v7 nd,x.places,fun p hp q hq e=>?_⟩
  obtain ⟨e1,m1,rfl⟩:=bo.mp hp
  obtain ⟨e2,m2,rfl⟩:=bo.mp hq
  exact neC e2 m2 (e▸adC e1 m1)
 ·rw [O];intro a ha e he z
  rcases cD.mp he with m | m
  ·exact nO (by rw [← adC e m,z];exact ha)
  ·exact x.ownP a ha e m z
 ·intro e he f
  rcases cD.mp he with m | m
  ·exact hCF (adC e m▸f)
  ·exact x.plF e m f
 ·intro e he
  rcases cD.mp he with m | m
  ·rw [adC e m];exact hC0
  ·exact x.newP e m
 ·unfold c9
  exact (cE (by rw [fg l,ba])).mpr ⟨zH,x.fix.imp fun e he v q=>q.keep fun o=>hk _ o⟩
theorem St.pop (x:St W F (G'1++G) ρ s):St W F G (ρ.drop G'1.length) s:=by
 have hl:G'1.length≤ρ.length:=by have:=x.env.length;rw [bS] at this;lia
 obtain ⟨ρ1,ρ2,rfl,e1⟩:∃ ρ1 ρ2,ρ=ρ1++ρ2∧G'1.length=ρ1.length:=⟨ρ.take G'1.length,ρ.drop G'1.length,(List.take_append_drop _ _).symm,by rw [List.length_take];lia⟩
 rw [e1,List.drop_left]
 have O:bk (G'1++G) (ρ1++ρ2)=bk G'1 ρ1++bk G ρ2:=b9 e1
 have sub:∀ a∈bk G ρ2,a∈bk (G'1++G) (ρ1++ρ2):=fun a ha=>by rw [O];exact du _ ha
 have nd:=x.nodup
 rw [O] at nd
 have pn:=x.places
 rw [dK] at pn
 exact ⟨((cH e1).mp x.env).2,x.world,x.base,x.live,(cF.mp pn).2.1,(cF.mp nd).2.1,fun a ha=>x.ownF a (sub a ha),fun a ha e he=>x.ownP a (sub a ha) e (du _ he),fun e he=>x.plF e (du _ he),fun a ha=>x.new a (sub a ha),fun e he=>x.newP e (du _ he),((cE e1).mp x.fix).2⟩
theorem xx (x:St W F (G'1++G) ρ s):∀ a∈bk G (ρ.drop G'1.length),a∈bk (G'1++G) ρ:=by
 have hl:G'1.length≤ρ.length:=by have:=x.env.length;rw [bS] at this;lia
 obtain ⟨ρ1,ρ2,rfl,e1⟩:∃ ρ1 ρ2,ρ=ρ1++ρ2∧G'1.length=ρ1.length:=⟨ρ.take G'1.length,ρ.drop G'1.length,(List.take_append_drop _ _).symm,by rw [List.length_take];lia⟩
 rw [e1,List.drop_left,b9 e1]
 exact fun a ha=>du _ ha
theorem cG.pop {xs:List Str} {is:List Nm} (x:St W F G ρ s) (l:xs.length=is.length) (hC:s.heap.get? C=none) (hk:∀ b o,s.heap.get? b=some o→s₁.heap.get? b=some o) (hg:s₁.gens=s.gens) (ho:s₁.os=s.os)
  (z:St W F' (bP C xs is++G) ρ' s') (y:cG G F (bP C xs is++G) (c9 is ρ) s₁ F' ρ' s'):b2 F G ρ s F' (ρ'.drop is.length) s':=by
 have O:=nG (G:=G) (ρ:=ρ) (C:=C) l
 have ln:=fg (C:=C) l
 have adC:∀ e∈bP C xs is,e.pl.addr=C:=fun e he=>iH he
 have none':∀ a,s₁.heap.get? a=none→s.heap.get? a=none:=fun a h=>by
  induction q:s.heap.get? a with
  | none=>rfl
  | some o=>rw [hk a o q] at h;exact nomatch h
 have sub:=xx z
 rw [ln] at sub
 have own:∀ a∈bk G (ρ'.drop is.length),a∈bk G ρ:=fun a ha=>O▸y.own a (sub a ha)
 refine ⟨⟨y.step.gens.trans hg,y.step.os.trans ho,y.step.mono,fun b o h hn hp=>y.step.keep b o (hk b o h) (O.symm▸hn) fun e he q=>?_,fun a f=>?_,fun a ha=>.inl (own a ha),fun b h=>none' b (y.step.lives b h),rfl⟩,fun e he o h=>y.pl e he o (hk _ o h),own⟩
 ·rcases cD.mp he with m | m
  ·rw [← q,adC e m,hC] at h;exact nn h
  ·exact hp e m q
 ·rcases y.step.freshF a f with q | q | q
  ·exact .inl q
  ·exact .inr (.inl (none' a q))
  ·exact .inr (.inr (O▸q))
end
end
section
noncomputable abbrev ef:Addr→Prop:=fun _=>True
theorem VR.up {h:Heap} {t:T} (x:VR W F h t v):VR W ef h t v:=x.mono (fun _ _=>trivial) fun _ _ _ e=>e
theorem bR.up {h:Heap} {t:List T} {v:List Value} (x:bR W F h t v):bR W ef h t v:=x.mono (fun _ _=>trivial) fun _ _ _ e=>e
noncomputable def dZ (W:Wd) (F:Addr→Prop) (h:Heap) (t:T) (v:Value):Prop:=VR W F h t v∨∃ as,gu W F h as t v
theorem gu.q {h:Heap} {t:T} (x:gu W F h as t v):dZ W F h t v:=.inr ⟨as,x⟩
theorem VR.q {h:Heap} {t:T} (x:VR W F h t v):dZ W F h t v:=.inl x
section
variable {W:Wd} {F:Addr→Prop} {h:Heap} {v:Value}
theorem dZ.up {t:T} (x:dZ W F h t v):VR W ef h t v:=by
 rcases x with x | ⟨as,x⟩
 ·exact x.up
 ·exact x.freeze.up
noncomputable def LA (W:Wd) (F:Addr→Prop) (h:Heap) (t:T) (v:Value):Prop:=match t with
 | .none=>v=.none
 | .bool b=>v=.bool b
 | .int i=>∃ t,v=.int i t
 | .str i=>∃ y t,v=.str y t∧bm i y
 | .tup xs=>∃ vs a n,v=.ref a∧h.get? a=some (seqObj "tuple" vs.toArray n)∧xs.length≤SZ∧bR W F h xs vs
 | .list xs=>∃ vs a n,v=.ref a∧h.get? a=some (seqObj "list" vs.toArray n)∧xs.length≤SZ∧bR W F h xs vs
 | .dict kvs=>∃ es a ep,v=.ref a∧h.get? a=some (aL es ep)∧kvs.length≤SZ∧(kvs.map (·.1)).Nodup∧(a==sysModules)=false∧cL W F h kvs es
 | .dvals kvs=>∃ es a d ep,v=.ref a∧h.get? a=some ⟨.type "dict_values",Option.none,.fields #[.ref d],#[]⟩∧h.get? d=some (aL es ep)∧kvs.length≤SZ∧cL W F h kvs es
 | .set xs=>∃ a,v=.ref a∧xs.length≤SZ∧mI W h a xs
 | .rng n=>∃ a u v' z,v=.ref a∧PySem.IsRange h a 0 n 1 u v' z∧n≤SZ
 | .inst c fs=>∃ es a dx ep,v=.ref a∧h.get? a=some (instObj (W.ca c) dx)∧h.get? dx=some (aL es ep)∧fs.length≤100∧jG W F h fs es
theorem cL.of (e:kvs.length=es.length) (r1:∀ (i:Nat) p e,kvs[i]? = some p→es[i]? = some e→VR W F h (cb p.1) e.key) (r2:∀ (i:Nat) p e,kvs[i]? = some p→es[i]? = some e→e.hash=eX W p.1) (r3:∀ (i:Nat) p e,kvs[i]? = some p→es[i]? = some e→VR W F h p.2 e.val):cL W F h kvs es:=bQ.of e fun i p e a b=>⟨r1 i p e a b,r2 i p e a b,r3 i p e a b⟩
theorem VR.view {t:T} (x:VR W F h t v):LA W F h t v:=by
 cases x with
 | none=>exact rfl
 | bool b=>exact rfl
 | int i t=>exact ⟨t,rfl⟩
 | str t n=>exact ⟨_,t,rfl,n⟩
 | tup_ f g l e r=>exact ⟨_,_,_,rfl,g,l,bQ.of e r⟩
 | list_ f g l e r=>exact ⟨_,_,_,rfl,g,l,bQ.of e r⟩
 | dict_ f g l n e r1 r2 r3=>exact ⟨_,_,_,rfl,g,l,n.1,n.2,cL.of e r1 r2 r3⟩
 | dvals_ f g f' g' l e r1 r2 r3=>exact ⟨_,_,_,_,rfl,g,g',l,cL.of e r1 r2 r3⟩
 | set f l r=>exact ⟨_,rfl,l,r⟩
 | rng f r b c t l=>subst b;subst c;subst t;exact ⟨_,_,_,_,rfl,r,l⟩
 | inst_ f f' g g' l e r1 r2=>exact ⟨_,_,_,_,rfl,g,g',l,bQ.of e fun i p e a b=>⟨r1 i p e a b,r2 i p e a b⟩⟩
theorem gu.view {t:T} (x:gu W F h as t v):LA W F h t v:=by
 cases x with
 | list e g l r=>exact ⟨_,_,_,rfl,g,l,r⟩
 | dict e g l n r=>exact ⟨_,_,_,rfl,g,l,n.1,n.2,r⟩
 | inst e g g' l r=>exact ⟨_,_,_,_,rfl,g,g',l,r⟩
theorem dZ.view {t:T} (x:dZ W F h t v):LA W F h t v:=x.elim VR.view fun x=>x.elim fun _=>gu.view
theorem VR.rootF {t:T} (x:VR W F h t v) (e:v=.ref a):F a:=by
 cases x with
 | none | bool | int | str=>exact nomatch e
 | tup_ f | list_ f | dict_ f | dvals_ f | set f | rng f | inst_ f=>exact Value.ref.inj e▸f
theorem dZ.list_inv (x:dZ W F h (.list xs) v):∃ vs a n,v=.ref a∧h.get? a=some (seqObj "list" vs.toArray n)∧xs.length≤SZ∧bR W F h xs vs:=x.view
theorem dZ.tup_inv (x:dZ W F h (.tup xs) v):∃ vs a n,v=.ref a∧h.get? a=some (seqObj "tuple" vs.toArray n)∧xs.length≤SZ∧bR W F h xs vs:=x.view
theorem dZ.dict_inv (x:dZ W F h (.dict kvs) v):∃ es a ep,v=.ref a∧h.get? a=some (aL es ep)∧kvs.length≤SZ∧(kvs.map (·.1)).Nodup∧(a==sysModules)=false∧cL W F h kvs es:=x.view
theorem dZ.inst_inv {c:Nat} {fs:List (Nat×T)} (x:dZ W F h (.inst c fs) v):∃ es a dx ep,v=.ref a∧h.get? a=some (instObj (W.ca c) dx)∧h.get? dx=some (aL es ep)∧fs.length≤100∧jG W F h fs es:=x.view
theorem dZ.int_inv {i:Int} (x:dZ W F h (.int i) v):∃ t,v=.int i t:=x.view
theorem dZ.bool_inv {b:Bool} (x:dZ W F h (.bool b) v):v=.bool b:=x.view
theorem dZ.none_inv (x:dZ W F h .none v):v=.none:=x.view
theorem dZ.str_inv (x:dZ W F h (.str i) v):∃ y t,v=.str y t∧bm i y:=x.view
theorem dZ.set_inv {xs:List Int} (x:dZ W F h (.set xs) v):∃ a,v=.ref a∧xs.length≤SZ∧mI W h a xs:=x.view
theorem dZ.rng_inv (x:dZ W F h (.rng n) v):∃ a u v' z,v=.ref a∧PySem.IsRange h a 0 n 1 u v' z∧n≤SZ:=x.view
theorem dZ.dvals_inv (x:dZ W F h (.dvals kvs) v):∃ es a d ep,v=.ref a∧h.get? a=some ⟨.type "dict_values",Option.none,.fields #[.ref d],#[]⟩∧h.get? d=some (aL es ep)∧kvs.length≤SZ∧cL W F h kvs es:=x.view
theorem VR.list_inv (x:VR W F h (.list xs) v):∃ vs a n,v=.ref a∧F a∧h.get? a=some (seqObj "list" vs.toArray n)∧xs.length≤SZ∧bR W F h xs vs:=
 let ⟨vs,a,n,e,r⟩:=x.q.list_inv
 ⟨vs,a,n,e,x.rootF e,r⟩
theorem VR.refF {t:T} (x:VR W F h t (.ref a)):F a:=x.rootF rfl
theorem VR.dvF {d:Addr} (x:VR W F h (.dvals kvs) (.ref a)) (g:h.get? a=some ⟨.type "dict_values",Option.none,.fields #[.ref d],#[]⟩):F d:=by
 cases x with | dvals_ f g1 f'=>rw [← show _=d from Value.ref.inj (List.cons.inj (Array.mk.inj (Data.fields.inj (Obj.mk.inj (az (g1.symm.trans g))).2.2.1))).1];exact f'
theorem VR.tup_inv (x:VR W F h (.tup xs) v):∃ vs a n,v=.ref a∧F a∧h.get? a=some (seqObj "tuple" vs.toArray n)∧xs.length≤SZ∧bR W F h xs vs:=
 let ⟨vs,a,n,e,r⟩:=x.q.tup_inv
 ⟨vs,a,n,e,x.rootF e,r⟩
end
theorem rK {c:String} {m:Nat} (e:seqObj c vs.toArray n=seqObj c us.toArray m):vs=us:=by
 exact aw Array.toList (Data.seq.inj (aw Obj.data e)).1
section
variable {W:Wd} {h:Heap}
mutual
theorem qX:∀ {a b:T} {v:Value} {r:Bool},AA a b=some r→VR W ef h a v→VR W ef h b v→r=true:=by
 intro a b v r e x y
 cases a with
 | none=>exact ifs e fun _ z=>z
 | bool p=>exact eU e fun q h1 z=>z.trans (bp.mpr (Value.bool.inj (x.q.bool_inv.symm.trans (vQ h1▸y).q.bool_inv)))
 | int p=>
  exact eU e fun q h1 z=>z.trans (br (by
   obtain ⟨t,h2⟩:=x.q.int_inv
   obtain ⟨u,h3⟩:=(cB h1▸y).q.int_inv
   exact (Value.int.inj (h2.symm.trans h3)).1))
 | str p=>
  exact eU e fun q h1 z=>z.trans (br (by
   obtain ⟨x1,t,h2,n⟩:=x.q.str_inv
   obtain ⟨x2,u,h3,n'⟩:=(yK h1▸y).q.str_inv
   exact n.inj ((Value.str.inj (h2.symm.trans h3)).1▸n')))
 | tup xs=>exact dy e fun ys h1 z=>x.tup_inv.elim fun vs ⟨a,n,h2,_,g,_,r1⟩=>(qS h1▸y).tup_inv.elim fun us ⟨a',n',h3,_,g',_,r2⟩=>nN z r1 (rK (az (g'.symm.trans (Value.ref.inj (h2.symm.trans h3)▸g)))▸r2)
 | list xs=>
  exact dy e fun ys h1 z=>x.list_inv.elim fun vs ⟨a,n,h2,_,g,_,r1⟩=>(et h1▸y).list_inv.elim fun us ⟨a',n',h3,_,g',_,r2⟩=>by
   have r2:=rK (az (g'.symm.trans (Value.ref.inj (h2.symm.trans h3)▸g)))▸r2
   rw [au (r1.length.trans r2.length.symm)] at z
   exact nN z r1 r2
 | dict _=>exact nn e
 | set _=>exact nn e
 | dvals _=>exact nn e
 | rng _=>exact nn e
 | inst _ _=>exact nn e
theorem nN:∀ {xs ys:List T} {vs:List Value} {r:Bool},xD xs ys=some r→bR W ef h xs vs→bR W ef h ys vs→r=true:=by
 intro xs ys vs r e x y
 cases xs with
 | nil=>
  cases ys with
  | nil=>exact (az e).symm
  | cons b ys=>rw [x.inv0] at y;exact nomatch y.inv
 | cons a xs=>
  cases ys with
  | nil=>rw [y.inv0] at x;exact nomatch x.inv
  | cons b ys=>
   obtain ⟨v,vs,x1,x2⟩:=x.inv
   obtain ⟨_,_,y1,y2⟩:=y.inv
   exact dy e fun p hp e=>eU e fun q hq z=>by rw [z,qX hp x1 y1,nN hq x2 y2];rfl
end
end
open SeqAt
set_option tactic.hygienic true in
theorem EqAt.of_rc {a b:Value} {r:Bool} (h:RcAt A s a b r) (he:a=b→r=true) (hf:∀ x t y u,(a,b)≠(.float x t,.float y u)):EqAt A s a b r:=by
 by_cases q:a=b
 ·subst q;rw [he rfl];exact EqAt.same a
 ·intro prog w E Q hq
  unfold eqBool
  refine b4 (wpAny_ite_split (fun hab=>absurd (eq_of_beq hab) q) fun _=>?_)
  split
  ·rename_i x t y u e;exact absurd e (hf x t y u)
  ·exact ac (h prog w E _ (wpAny_truthy_bool hq))
theorem pg {h:Heap} (g:h.get? a=some (seqObj "list" vs.toArray n)):h.IsList a vs.toArray:=⟨_,g,rfl,_,rfl⟩
theorem KM {h:Heap} (g:h.get? a=some (seqObj "tuple" vs.toArray n)):h.IsTuple a vs.toArray:=⟨_,g,rfl,_,rfl⟩
theorem CL {h:Heap} (g:h.get? a=some (seqObj "tuple" vs.toArray n)):IsTup h a vs.toArray:=⟨_,g,rfl,_,rfl⟩
theorem VR.noFloat {h:Heap} {t:T} (x:VR W F h t v) (a:UInt64) (u:Tok):v≠.float a u:=by intro e;subst e;exact nomatch x
section
variable {W:Wd}
inductive vI (A:Around) (s:Shared) (vs us:List Value) (r:Bool):Prop where
 | mk (e:Nat→Bool) (h1:∀ j (h1:j < vs.length) (h2:j < us.length),EqAt A s vs[j] us[j] (e j)) (h2:((List.range (min vs.length us.length)).all e&&vs.length==us.length)=r)
theorem vI.tups {r:Bool} {a':Addr} (x:vI A.in1 s vs us r) (g:s.heap.IsTuple a vs.toArray) (g':s.heap.IsTuple a' us.toArray) (hu:A.units < cLine):RcAt A s (.ref a) (.ref a') r∧RcNeAt A s (.ref a) (.ref a') (!r):=by
 obtain ⟨f,h1,h2⟩:=x
 subst h2
 exact ⟨RcAt.tuples g g' hu h1,RcNeAt.tuples g g' hu h1⟩
theorem vI.lists {r:Bool} {a':Addr} (x:vI A.in1 s vs us r) (g:s.heap.IsList a vs.toArray) (g':s.heap.IsList a' us.toArray) (hl:vs.length=us.length) (hu:A.units < cLine):RcAt A s (.ref a) (.ref a') r∧RcNeAt A s (.ref a) (.ref a') (!r):=by
 obtain ⟨f,h1,h2⟩:=x
 rw [hl,Nat.min_self,beq_self_eq_true,Bool.and_true,← hl] at h2
 subst h2
 exact ⟨RcAt.lists g g' hl hu h1,RcNeAt.lists g g' hl hu h1⟩
theorem vI.cons {u:Value} {p q:Bool} (hd:EqAt A s v u p) (x:vI A s vs us q):vI A s (v::vs) (u::us) (p&&q):=by
 obtain ⟨f,h1,h2⟩:=x
 refine ⟨fun j=>Nat.casesOn j p f,fun j l1 l2=>?_,?_⟩
 ·cases j with
  | zero=>exact hd
  | succ j=>exact h1 j (Nat.lt_of_succ_lt_succ l1) (Nat.lt_of_succ_lt_succ l2)
 ·rw [← h2,eH,eH,Nat.succ_min_succ,List.range_succ_eq_map,List.all_cons,List.all_map,Bool.and_assoc]
  exact aw (fun b=>p&&(_&&b)) (Bool.eq_iff_iff.mpr (by simp))
mutual
theorem zb:∀ {a b:T} {A:Around} {s:Shared} {va vb:Value} {r:Bool},AA a b=some r→VR W ef s.heap a va→VR W ef s.heap b vb→A.units+depth a < cLine→RcAt A s va vb r∧RcNeAt A s va vb (!r):=by
 intro a b A s va vb r e x y hu
 cases a with
 | none=>exact ifs e fun h z=>by have y':VR W ef s.heap .none vb:=nr h▸y;rw [z,x.q.none_inv,y'.q.none_inv];exact ⟨RcAt.none_none,RcNeAt.none_none⟩
 | bool p=>exact eU e fun q h z=>by have y':VR W ef s.heap (.bool q) vb:=vQ h▸y;rw [z,x.q.bool_inv,y'.q.bool_inv];exact ⟨RcAt.bool_bool _ _,RcNeAt.bool_bool _ _⟩
 | int p=>
  exact eU e fun q h z=>by
   obtain ⟨t,h1⟩:=x.q.int_inv;obtain ⟨u,h2⟩:=(cB h▸y).q.int_inv
   rw [z,h1,h2];exact ⟨RcAt.int_int _ _ _ _,RcNeAt.int_int _ _ _ _⟩
 | str p=>
  exact eU e fun q h z=>by
   obtain ⟨x1,t,h1,n⟩:=x.q.str_inv;obtain ⟨x2,u,h2,n'⟩:=(yK h▸y).q.str_inv
   have hz:(x1==x2)=decide (p=q):=Bool.eq_iff_iff.mpr (bp.trans ((Iff.intro (fun k=>n.inj (k▸n')) fun k=>by subst k;exact n.fn n').trans decide_eq_true_iff.symm))
   rw [z,h1,h2,← hz]
   exact ⟨RcAt.str_str _ _ _ _,RcNeAt.str_str _ _ _ _⟩
 | tup xs=>
  exact dy e fun ys h1 z=>by
   obtain ⟨vs,a,n,h2,_,g,_,r1⟩:=x.tup_inv;obtain ⟨us,a',n',h3,_,g',_,r2⟩:=(qS h1▸y).tup_inv
   rw [h2,h3]
   exact (vG z r1 r2 (A:=A.in1) (by rw [Around.in1_units,Nat.add_assoc,Nat.add_comm 1];exact hu)).tups (KM g) (KM g') (eG (Nat.le_add_right _ _) hu)
 | list xs=>
  exact dy e fun ys h1 z=>by
   obtain ⟨vs,a,n,h2,_,g,_,r1⟩:=x.list_inv;obtain ⟨us,a',n',h3,_,g',_,r2⟩:=(et h1▸y).list_inv
   have hu':A.units < cLine:=eG (Nat.le_add_right _ _) hu
   rw [h2,h3]
   by_cases q:xs.length=ys.length
   ·rw [au q] at z
    exact (vG z r1 r2 (A:=A.in1) (by rw [Around.in1_units,Nat.add_assoc,Nat.add_comm 1];exact hu)).lists (pg g) (pg g') (r1.length.symm.trans (q.trans r2.length)) hu'
   ·rw [av q] at z
    have q':(vs.toArray.size != us.toArray.size)=true:=bne_iff_ne.mpr fun k=>q (r1.length.trans (k.trans r2.length.symm))
    rw [← az z]
    exact ⟨RcAt.lists_lengths (pg g) (pg g') q' hu',RcNeAt.lists_lengths (pg g) (pg g') q' hu'⟩
 | dict _=>exact nn e
 | set _=>exact nn e
 | dvals _=>exact nn e
 | rng _=>exact nn e
 | inst _ _=>exact nn e
theorem vG:∀ {xs ys:List T} {A:Around} {s:Shared} {vs us:List Value} {r:Bool},xD xs ys=some r→bR W ef s.heap xs vs→bR W ef s.heap ys us→A.units+q4 xs < cLine→vI A s vs us r:=by
 intro xs ys A s vs us r e x y hu
 cases xs with
 | nil=>
  cases ys with
  | nil=>rw [x.inv0,y.inv0,← az e];exact ⟨fun _=>true,fun j h1=>absurd h1 (Nat.not_lt_zero _),rfl⟩
  | cons b ys=>obtain ⟨_,_,_,_⟩:=y.inv;rw [x.inv0,← az e];exact ⟨fun _=>true,fun j h1=>absurd h1 (Nat.not_lt_zero _),Bool.and_false _⟩
 | cons a xs=>
  cases ys with
  | nil=>obtain ⟨_,_,_,_⟩:=x.inv;rw [y.inv0,← az e];exact ⟨fun _=>true,fun j _ h2=>absurd h2 (Nat.not_lt_zero _),Bool.and_false _⟩
  | cons b ys=>
   obtain ⟨v,vs,x1,x2⟩:=x.inv
   obtain ⟨u,us,y1,y2⟩:=y.inv
   exact dy e fun p hp e=>eU e fun q hq z=>z▸vI.cons (EqAt.of_rc (zb hp x1 y1 (eG (Nat.add_le_add_left (Nat.le_max_left _ _) _) hu)).1 (fun z=>qX hp x1 (z▸y1)) fun a t b u z=>x1.noFloat a t (aw Prod.fst z)) (vG hq x2 y2 (eG (Nat.add_le_add_left (Nat.le_max_right _ _) _) hu))
end
theorem Fz {a b:T} {r:Bool} (e:AA a b=some r) (x:VR W ef s.heap a va) (y:VR W ef s.heap b vb) (hu:A.units+depth a < cLine):EqAt A s va vb r:=
 EqAt.of_rc (zb e x y hu).1 (fun z=>by subst z;exact qX e x y) fun a t b u z=>x.noFloat a t (aw Prod.fst z)
end
inductive fy (W:Wd) (F:Addr→Prop) (s:Shared) (t:T) (v:Value) (s':Shared):Prop where
 | mk (F':Addr→Prop) (h1:cf F s F' s') (h2:VR W F' s'.heap t v)
inductive mi (W:Wd) (F:Addr→Prop) (s:Shared) (t:T) (v:Value) (s':Shared):Prop where
 | mk (as:List Addr) (h1:cf F s F s') (h2:gu W F s'.heap as t v) (h3:as.Nodup) (h4:(∀ a∈as,s.heap.get? a=none))
theorem mi.res {t:T} (x:mi W F s t v s'):fy W F s t v s':=by
 obtain ⟨as,g,r,_,n⟩:=x
 exact ⟨_,g.add n fun a ha=>r.live ha,r.freeze⟩
section
variable {W:Wd} {F:Addr→Prop} {s:Shared}
theorem fy.of_toks {t:T} {tk:Nat} (x:VR W F s.heap t v):fy W F s t v { s with toks:=tk }:=⟨F,cf.toks F tk,x⟩
theorem fy.of_same {t:T} (x:VR W F s.heap t v):fy W F s t v s:=⟨F,cf.refl F s,x⟩
theorem mi.list {tk:Nat} (r:bR W F s.heap xs vs) (l:xs.length≤SZ):mi W F s (.list xs) (.ref s.heap.objs.size) { s with heap:=s.heap.push (seqObj "list" vs.toArray n),toks:=tk }:=
 ⟨[s.heap.objs.size],cf.push F _ tk,.list rfl (dH _ rfl) l (r.grow (s':={ s with heap:=s.heap.push (seqObj "list" vs.toArray n),toks:=tk }) (cf.push F _ tk)),by simp,fun a h=>by rw [aV.mp h];exact aS _⟩
theorem fy.tup {tk:Nat} (r:bR W F s.heap xs vs) (l:xs.length≤SZ):fy W F s (.tup xs) (.ref s.heap.objs.size) { s with heap:=s.heap.push (seqObj "tuple" vs.toArray n),toks:=tk }:=
 ⟨fun a=>F a∨a∈[s.heap.objs.size],(cf.push F _ tk).add (fun a h=>by rw [aV.mp h];exact aS _) (fun a h=>by rw [aV.mp h];exact ⟨_,dH _ rfl⟩),
  .tup (.inr (by simp)) (dH _ rfl) l (r.mono (fun _=>.inl) fun a o _ e=>bU _ e)⟩
theorem dZ.tup_vr {h:Heap} (x:dZ W F h (.tup xs) v):VR W F h (.tup xs) v:=by
 rcases x with x | ⟨as,x⟩
 ·exact x
 ·exact (nomatch x)
end
section
variable {W:Wd} {F:Addr→Prop} {s:Shared} {A:Around} {E:Value→Shared→Prop}
theorem sr {a:Int} (h:small a=true):Builtin.Int.intBits a≤64:=by
 unfold small at h
 have:=bI h
 exact intBits_le_64 (by lia) (by lia)
theorem Eg {op:Operator} {a b:Int} {t:T} {u v:Tok} (e:Ny a b op=some t):wpAny (model W.prog W.w) A (binaryOp op (.int a u) (.int b v)) (fy W F s t) E s:=by
 refine cps fun G k=>?_
 cases op
 case Add=>refine k ?_;rw [← az e];exact P.add_int (.of_toks (.int _ _))
 case Sub=>refine k ?_;rw [← az e];exact P.sub_int (.of_toks (.int _ _))
 case Mult=>exact ifs e fun z te=>k (te▸P.mul_int (.of_toks (.int _ _)) ((Bool.or_eq_true_iff.mp z).elim (fun z=>IntMulOk.of_left (sr z)) fun z=>IntMulOk.of_right (sr z)))
 case FloorDiv=>exact ifs e fun z te=>k (te▸floordiv_int (Int.ne_of_gt z.1) (by rw [Int.fdiv_eq_ediv_of_nonneg _ (Int.le_of_lt z.1)];exact .of_toks (.int _ _)) (.inl (PyProof.noPylong_small (by lia))))
 case Mod=>exact ifs e fun z te=>k (te▸mod_int' (Int.ne_of_gt z) (by rw [Int.fmod_eq_emod_of_nonneg _ (Int.le_of_lt z)];exact .of_toks (.int _ _)))
 case Pow=>
  exact ifs e fun z te=>k (te▸(by
   have z2:=cz.mp z
   have z3:=cz.mp z2.1
   exact pow_int_small (bI z3.2) (Int.le_trans (bI z2.2) (by decide)) (bI z3.1) (.of_toks (.int _ _))))
 case BitAnd=>
  exact ifs e fun z te=>k (te▸(by
   obtain ⟨rfl,z⟩:=z
   refine and_int (by
    rw [show Builtin.bitAnd 0 b=0 by unfold Builtin.bitAnd;rw [br (show (0:Int)≤0 from Int.le_refl _),br z];simp]
    exact .of_toks (.int _ _))))
 all_goals exact nn e
theorem JZ {a t:T} (e:NB a=some t) (x:VR W F s.heap a v):wpAny (model W.prog W.w) A (unaryOp .USub v) (fy W F s t) E s:=by
 exact eU (f:=fun a=>T.int (-a)) (o:=gm a) (by cases a<;>first | exact e | exact nn e) fun i h z=>by
  obtain ⟨u,rfl⟩:=(cB h▸x).q.int_inv
  rw [z];exact P.neg_int (.of_toks (.int _ _))
end
end
section
theorem gz:SZ≤sizeLine:=by rw [sizeLine_eq];decide
theorem Ov:SZ < sizeLine:=by rw [sizeLine_eq];decide
section
variable {W:Wd} {F:Addr→Prop} {s:Shared} {A:Around} {E:Value→Shared→Prop}
theorem F2 {ys:List T} (x:VR W F s.heap (.tup xs) va) (y:VR W F s.heap (.tup ys) vb) (l:xs.length+ys.length≤SZ):wpAny (model W.prog W.w) A (binaryOp .Add va vb) (fy W F s (.tup (xs++ys))) E s:=by
 obtain ⟨vs,a,n,rfl,fa,g,_,r1⟩:=id x.tup_inv
 obtain ⟨us,b,n',rfl,fb,g',_,r2⟩:=id y.tup_inv
 have l1:=r1.length
 have l2:=r2.length
 by_cases e1:vs=[]
 ·subst e1
  have:xs=[]:=List.length_eq_zero_iff.mp (by simpa using l1)
  subst this
  exact concat_meets ⟨_,g,rfl⟩ ⟨_,g',rfl⟩ noFill_tuple_add seq_tuple_add PySem.F.slot_tuple_add PySem.F.entry_tuple_add (PySem.F.args_tuple_add_2 _ _) (tuple_addW0 a b #[] us.toArray n n' none none #[] #[] rfl) ⟨g,g',fy.of_same y⟩
 ·by_cases e2:us=[]
  ·subst e2
   have:ys=[]:=List.length_eq_zero_iff.mp (by simpa using l2)
   subst this
   rw [cj]
   exact concat_meets ⟨_,g,rfl⟩ ⟨_,g',rfl⟩ noFill_tuple_add seq_tuple_add PySem.F.slot_tuple_add PySem.F.entry_tuple_add (PySem.F.args_tuple_add_2 _ _) (tuple_addW1 a b vs.toArray #[] n n' none none #[] #[] (by simpa using e1) rfl) ⟨g,g',fy.of_same x⟩
  ·refine P.add_tuple g g' (by simpa using e1) (by simpa using e2) ?_ (by simp only [cP];have:=gz;lia)
   rw [show vs.toArray++us.toArray=(vs++us).toArray by simp]
   exact fy.tup (tk:=s.toks) (n:=0) (r1.append r2) (by rw [bS];exact l)
theorem x6 {ys:List T} (x:dZ W F s.heap (.list xs) va) (y:dZ W F s.heap (.list ys) vb) (l:xs.length+ys.length≤SZ):wpAny (model W.prog W.w) A (binaryOp .Add va vb) (mi W F s (.list (xs++ys))) E s:=by
 obtain ⟨vs,a,n,rfl,g,_,r1⟩:=x.list_inv
 obtain ⟨us,b,n',rfl,g',_,r2⟩:=y.list_inv
 have l1:=r1.length
 have l2:=r2.length
 refine P.add_list g g' ?_ (by simp only [cP];have:=gz;lia)
 rw [show vs.toArray++us.toArray=(vs++us).toArray by simp]
 exact mi.list (tk:=s.toks) (n:=0) (r1.append r2) (by rw [bS];exact l)
end
section
variable {W:Wd}
theorem Nv {i j:Int} {u:Tok}:(intKind W.prog W.w).is i (.int j u)=decide (bL.I j=bL.I i):=by
 by_cases q:j=i
 ·subst q;simp [intKind,Value.isInt]
 ·simp [intKind,Value.isInt,q]
theorem ux {i:Int} {u:Tok}:(intKind W.prog W.w).is i (.int i u)=true:=by rw [Nv];exact br rfl
theorem Ag {x:Str} {u:Tok}:(PySem.strKind W.prog W.w).is x (.str x u)=true:=by simp [PySem.strKind,Value.isStrOf]
theorem Pr {j:Nat} {x y:Str} {u:Tok} (hx:bm i x) (hy:bm j y):(PySem.strKind W.prog W.w).is x (.str y u)=decide (bL.S j=bL.S i):=by
 by_cases q:j=i
 ·subst q;rw [hx.fn hy,Ag,br rfl]
 ·have:x≠y:=fun z=>q (hy.inj (z▸hx))
  simp [PySem.strKind,Value.isStrOf,q,Ne.symm this,this]
theorem Ew {h:Heap}:∀ {vs:List Value},bR W ef h (ks.map .int) vs→ItemsAre (intKind W.prog W.w) ks vs:=by
 induction ks with
 | nil=>intro vs x;rw [x.inv0];exact .nil
 | cons k ks ih=>
  intro vs x
  obtain ⟨v,vs,a,r⟩:=bR.inv (t:=.int k) (ts:=ks.map .int) x
  obtain ⟨t,h⟩:=a.q.int_inv
  rw [h];exact .cons ux (ih r)
theorem jY {h:Heap} (x:VR W ef h (.tup (ks.map .int)) (.ref a)):IsTupleKey (intKind W.prog W.w) h ks a:=by
 obtain ⟨vs,a',n,e,_,g,_,r⟩:=x.tup_inv
 cases e
 exact ⟨_,_,_,g,rfl,rfl,by simpa using Ew r⟩
theorem Nj {a b:bL} (h:cb a=cb b):a=b:=by
 induction a with
 | I a=>induction b with
  | I b=>exact aw bL.I (T.int.inj h)
  | _=>exact nomatch h
 | S a=>induction b with
  | S b=>exact aw bL.S (T.str.inj h)
  | _=>exact nomatch h
 | T a=>induction b with
  | T b=>exact aw bL.T ((List.map_inj_right (fun _ _ h=>T.int.inj h)).mp (T.tup.inj h))
  | _=>exact nomatch h
theorem ew:∀ {ks:List Int},c6 xs=some ks→xs=ks.map .int:=by
 induction xs with
 | nil=>intro ks e;rw [← az e];rfl
 | cons x xs ih=>intro ks e;exact dy e fun i h1 e=>eU e fun l h2 z=>by rw [z,cB h1,ih h2];rfl
theorem tF {h:Heap} {l:List Int}:∀ {vs:List Value},bR W F h (l.map .int) vs→IntsAre vs l:=by
 induction l with
 | nil=>intro vs r;rw [r.inv0];exact .nil
 | cons i l ih=>
  intro vs r
  obtain ⟨v,vs,x,r2⟩:=bR.inv (t:=.int i) (ts:=l.map .int) r
  obtain ⟨u,rfl⟩:=x.q.int_inv
  exact .cons i u (ih r2)
theorem wr {h:Heap} (e:c6 xs=some ks) (r:bR W F h xs vs):IntsAre vs ks:=tF (ew e▸r)
theorem wt {h:Heap} (x:IntsAre vs ks):bR W F h (ks.map .int) vs:=by
 induction x with
 | nil=>exact .nil
 | cons k t r ih=>exact .cons (.int k t) ih
theorem gJ {t:T} (e:fQ t=some k):t=cb k:=by
 cases t with
 | int i=>rw [← az e];rfl
 | str i=>rw [← az e];rfl
 | tup xs=>exact eU e fun l h z=>by rw [z,ew h];rfl
 | _=>exact nn e
theorem cL.mem {h:Heap}:∀ {es:List DictEntry},cL W F h kvs es→∀ {e:DictEntry},e∈es→∃ k t,(k,t)∈kvs∧VR W F h (cb k) e.key∧e.hash=eX W k∧VR W F h t e.val:=by
 induction kvs with
 | nil=>intro es x e he;rw [x.inv0] at he;exact nomatch he
 | cons p kvs ih=>
  intro es x e he
  obtain ⟨e',es,a,b,c,r⟩:=cL.inv (k:=p.1) (t:=p.2) x
  rcases aU.mp he with rfl | he
  ·exact ⟨_,_,.head _,a,b,c⟩
  ·obtain ⟨k,t,h1,h2⟩:=ih r he;exact ⟨k,t,.tail _ h1,h2⟩
theorem cL.at {h:Heap}:∀ {es:List DictEntry},cL W F h kvs es→∀ {i:Nat} {k:bL} {t:T},kvs[i]? = some (k,t)→∃ e,es[i]? = some e∧VR W F h (cb k) e.key∧e.hash=eX W k∧VR W F h t e.val:=by
 induction kvs with
 | nil=>intro es x i k t e;rw [List.getElem?_nil] at e;exact (nomatch e)
 | cons p kvs ih=>
  intro es x i k t e
  obtain ⟨e',es,a,b,c,r⟩:=cL.inv (k:=p.1) (t:=p.2) x
  induction i with
  | zero=>obtain rfl:=az e;exact ⟨_,rfl,a,b,c⟩
  | succ i=>exact ih r e
theorem cL.up {h:Heap} (x:cL W F h kvs es):cL W ef h kvs es:=x.mono (fun _ _=>trivial) fun _ _ _ e=>e
noncomputable def PQ:Value→Option Addr | .ref a=>some a | _=>none
noncomputable def rowsH:List (bL×T)→List DictEntry→List (List Int×Addr×Value)
 | []=>fun _=>[]
 | p::kvs=>fun l=>match l with
  | []=>[]
  | e::es=>(Go p.1).elim [] fun ks=>(PQ e.key).elim [] fun a=>(ks,a,e.val)::rowsH kvs es
structure OA (W:Wd) (h:Heap) (kvs:List (bL×T)) (es:List DictEntry):Prop where
 h1:es=(rowsH kvs es).map (entryOfKey (tupleKind (intKind W.prog W.w)))
 h2:∀ x∈rowsH kvs es,(tupleKind (intKind W.prog W.w)).is h x.1 x.2.1
 h3:(rowsH kvs es).map (fun x=>bL.T x.1)=kvs.map (·.1)
theorem Mg (h:k.kind=2):∃ i,k=.T i:=by induction k<;>first | exact ⟨_,rfl⟩ | exact nomatch h
theorem cL.rowsH {h:Heap}:∀ {es:List DictEntry},cL W F h kvs es→(∀ p∈kvs,p.1.kind=2)→OA W h kvs es:=by
 induction kvs with
 | nil=>intro es x _;rw [x.inv0];exact ⟨rfl,fun _ h=>(nomatch h),rfl⟩
 | cons p kvs ih=>
  obtain ⟨k,t⟩:=p
  intro es x hk
  obtain ⟨e,es,a,b,c,r⟩:=x.inv
  have h:=ih r fun p hp=>hk p (.tail _ hp)
  obtain ⟨ks,rfl⟩:=Mg (hk (k,t) (.head _))
  obtain ⟨hash,key,val⟩:=e
  obtain ⟨vs,ad,n,e2,_⟩:=a.tup_inv
  obtain rfl:key=.ref ad:=e2
  obtain rfl:hash=eX W (.T ks):=b
  refine ⟨aw (List.cons _) h.h1,fun x hx=>?_,aw (List.cons _) h.h3⟩
  rcases aU.mp hx with rfl | hx
  ·exact jY a.up
  ·exact h.h2 x hx
variable {s:Shared} {A:Around} {E:Value→Shared→Prop}
theorem GZ (h:tR k kvs=true):∀ p∈kvs,p.1.kind=k.kind:=fun p hp=>by
 have:=aY.mp h p hp
 exact bp.mp this
theorem Dx (h:k.kind=0):∃ i,k=.I i:=by induction k<;>first | exact ⟨_,rfl⟩ | exact nomatch h
theorem Gf (h:k.kind=1):∃ i,k=.S i:=by induction k<;>first | exact ⟨_,rfl⟩ | exact nomatch h
theorem BQ {l:List (List Int×Addr×Value)}:(∀ (j:Nat) (p:Addr×Value),l[j]?≠some (ks,p))→(l.map fun x=>bL.T x.1).findIdx? (fun x=>decide (x=bL.T ks))=none:=by
 intro h
 rw [List.findIdx?_eq_none_iff]
 intro x hx
 obtain ⟨y,hy,rfl⟩:=bo.mp hx
 refine eK fun e=>?_
 obtain ⟨j,hj⟩:=List.mem_iff_getElem?.mp hy
 cases e
 exact h j y.2 hj
theorem ye {l:List (List Int×Addr×Value)} {j:Nat} {p:Addr×Value} (hn:(l.map fun x=>bL.T x.1).Nodup) (hj:l[j]? = some (ks,p)):(l.map fun x=>bL.T x.1).findIdx? (fun x=>decide (x=bL.T ks))=some j:=by
 obtain ⟨hlt,he⟩:=g8.mp hj
 rw [List.findIdx?_eq_some_iff_getElem]
 refine ⟨by simpa using hlt,by simp [he],fun i hi=>?_⟩
 simp only [List.getElem_map,decide_eq_true_eq]
 intro e
 have h1:(l.map fun x=>bL.T x.1)[i]? = some (bL.T ks):=by
  rw [dL,cq (by lia)];simp [e]
 have h2:(l.map fun x=>bL.T x.1)[j]? = some (bL.T ks):=by rw [dL,hj];rfl
 have:=(List.getElem?_inj (g8.mp h1).1 hn).mp (h1.trans h2.symm)
 lia
theorem wY:(kvs.findIdx? fun p=>decide (p.1=k))=(kvs.map (·.1)).findIdx? fun x=>decide (x=k):=by
 induction kvs with
 | nil=>rfl
 | cons p kvs ih=>simp only [c8,List.findIdx?_cons,ih]
theorem By {h:Heap} (i:Int):∀ {es:List DictEntry},cL W F h kvs es→(∀ p∈kvs,p.1.kind=0)→(es.findIdx? fun e=>(intKind W.prog W.w).is i e.key)=kvs.findIdx? fun p=>decide (p.1=bL.I i):=by
 induction kvs with
 | nil=>intro es x _;rw [x.inv0];rfl
 | cons p kvs ih=>
  intro es x hk
  obtain ⟨e,es,a,b,c,r⟩:=cL.inv (k:=p.1) (t:=p.2) x
  obtain ⟨j,hj⟩:=Dx (hk p (.head _))
  rw [hj] at a
  obtain ⟨u,hu⟩:=a.q.int_inv
  rw [List.findIdx?_cons,List.findIdx?_cons,ih r (fun p hp=>hk p (.tail _ hp)),hu,Nv,hj]
theorem CF {h:Heap} {x:Str} (hx:bm i x):∀ {es:List DictEntry},cL W F h kvs es→(∀ p∈kvs,p.1.kind=1)→(es.findIdx? fun e=>(PySem.strKind W.prog W.w).is x e.key)=kvs.findIdx? fun p=>decide (p.1=bL.S i):=by
 induction kvs with
 | nil=>intro es x _;rw [x.inv0];rfl
 | cons p kvs ih=>
  intro es x hk
  obtain ⟨e,es,a,b,c,r⟩:=cL.inv (k:=p.1) (t:=p.2) x
  obtain ⟨j,hj⟩:=Gf (hk p (.head _))
  rw [hj] at a
  obtain ⟨y,u,hu,hy⟩:=a.q.str_inv
  rw [List.findIdx?_cons,List.findIdx?_cons,ih r (fun p hp=>hk p (.tail _ hp)),hu,Pr hx hy,hj]
theorem vB {x:Str} (h:bm i x):eX W (.S i)=hashStr W.w x:=by
 show hashStr W.w (mX.getD i Str.empty)=_
 rw [hQ,show mX[i]? = some x from h];rfl
theorem Dp {d:Addr} {ep:Nat} {kv:Value} {Q:Option Nat→Shared→Prop} (hu:A.units < cLine) (hg:s.heap.get? d=some (aL es ep)) (r:cL W F s.heap kvs es) (hn:(kvs.map (·.1)).Nodup)
  (hh:tR k kvs=true) (hk:VR W ef s.heap (cb k) kv) (q:Q (kvs.findIdx? fun p=>decide (p.1=k)) s):wpAny (model W.prog W.w) A (dictFind d kv (eX W k)) Q E s:=by
 have hm:=GZ hh
 induction k with
 | I i=>
  obtain ⟨t,rfl⟩:=hk.q.int_inv
  refine wpAny_dictFind_of (knd:=intKind W.prog W.w) (k:=i) ux hg rfl (fun e he=>?_) (by rw [← By i r hm] at q;rw [List.findIdx?_toArray];exact q)
  obtain ⟨k',t',h1,h2,h3,_⟩:=r.mem (List.mem_toArray.mp he)
  obtain ⟨j,hj⟩:=Dx (hm _ h1)
  obtain rfl:k'=.I j:=hj
  obtain ⟨u,hu⟩:=h2.q.int_inv
  exact ⟨j,hu▸ux,h3⟩
 | S i=>
  obtain ⟨x,t,rfl,hx⟩:=hk.q.str_inv
  rw [vB hx]
  refine wpAny_dictFind_of (knd:=PySem.strKind W.prog W.w) (k:=x) Ag hg rfl (fun e he=>?_) (by rw [← CF hx r hm] at q;rw [List.findIdx?_toArray];exact q)
  obtain ⟨k',t',h1,h2,h3,_⟩:=r.mem (List.mem_toArray.mp he)
  obtain ⟨j,hj⟩:=Gf (hm _ h1)
  obtain rfl:k'=.S j:=hj
  obtain ⟨y,u,hu,hy⟩:=h2.q.str_inv
  exact ⟨y,hu▸Ag,h3.trans (vB hy)⟩
 | T ks=>
  obtain ⟨vs,a,n,rfl,_⟩:=hk.tup_inv
  have h:=r.rowsH hm
  rw [wY,← h.h3] at q
  have hn':=h.h3▸hn
  refine wpAny_dictFind_heap (knd:=tupleKind (intKind W.prog W.w)) (k:=ks) hu (jY hk) hg rfl h.h1 h.h2 ?_ (fun hno=>by rw [BQ hno] at q;exact q) fun j p hj=>by rw [ye hn' hj] at q;exact q
  exact List.Pairwise.of_map (S:=(·≠·)) bL.T (fun _ _ h e=>h (aw _ e)) (by rw [cp];exact hn')
theorem I2 {kv:Value} {Q:Int→Shared→Prop} (hu:A.units < cLine) (hk:VR W ef s.heap (cb k) kv) (q:∀ tk,Q (eX W k) { s with toks:=tk }):wpAny (model W.prog W.w) A (pyHash kv) Q E s:=by
 induction k with
 | I i=>
  obtain ⟨t,rfl⟩:=hk.q.int_inv
  exact (intKind W.prog W.w).pyHash (k:=i) ux (q _)
 | S i=>
  obtain ⟨x,t,rfl,hx⟩:=hk.q.str_inv
  rw [vB hx] at q
  exact (PySem.strKind W.prog W.w).pyHash (k:=x) Ag (q _)
 | T ks=>
  obtain ⟨vs,a,n,rfl,_⟩:=hk.tup_inv
  exact (tupleKind (intKind W.prog W.w)).pyHash (k:=ks) hu (jY hk) (q _)
end
end
section
theorem iM (h:(kvs.findIdx? fun p=>decide (p.1=k))=none):gL kvs k=none∧kvs.any (fun p=>decide (p.1=k))=false∧k∉kvs.map (·.1):=by
 rw [List.findIdx?_eq_none_iff] at h
 refine ⟨?_,?_,?_⟩
 ·unfold gL
  rw [List.find?_eq_none.mpr (fun p hp=>by rw [h p hp];decide)];rfl
 ·rw [List.any_eq_false];exact fun p hp=>by rw [h p hp];decide
 ·intro hm
  obtain ⟨p,hp,rfl⟩:=bo.mp hm
  exact of_decide_eq_false (h p hp) rfl
theorem iS (h:(kvs.findIdx? fun p=>decide (p.1=k))=some i):∃ t,kvs[i]? = some (k,t)∧gL kvs k=some t∧kvs.any (fun p=>decide (p.1=k))=true:=by
 obtain ⟨hlt,hp,hmin⟩:=List.findIdx?_eq_some_iff_getElem.mp h
 have hk:kvs[i].1=k:=bI hp
 refine ⟨kvs[i].2,?_,?_,?_⟩
 ·rw [cq hlt,← hk]
 ·unfold gL
  have:(kvs.find? fun p=>decide (p.1=k))=some kvs[i]:=by
   rw [List.find?_eq_some_iff_getElem]
   exact ⟨hp,i,hlt,rfl,fun j hj=>by have:=hmin j hj;simpa using this⟩
  rw [this];rfl
 ·rw [List.any_eq_true];exact ⟨_,List.getElem_mem hlt,hp⟩
noncomputable def Pn (W:Wd) (F:Addr→Prop) (h:Heap):Option T→Option Value→Prop
 | some t,some v=>VR W F h t v
 | none,none=>True
 | _,_=>False
section
variable {W:Wd} {F:Addr→Prop} {h:Heap}
theorem MW {t:T} (hn:k∉kvs.map (·.1)):(kvs.map fun p=>if p.1=k then (p.1,t) else p)=kvs:=by
 induction kvs with
 | nil=>rfl
 | cons p kvs ih=>
  rw [c8,aU,not_or] at hn
  rw [c8,av (fun e=>hn.1 e.symm),ih hn.2]
theorem cL.modify:∀ {es:List DictEntry},cL W F h kvs es→(kvs.map (·.1)).Nodup→∀ {k:bL} {i:Nat} {t:T} {v:Value},(kvs.findIdx? fun p=>decide (p.1=k))=some i→VR W F h t v→
  cL W F h (kvs.map fun p=>if p.1=k then (p.1,t) else p) (es.modify i fun e=>{ e with val:=v }):=by
 induction kvs with
 | nil=>intro es _ _ k i t v hi;exact nn hi
 | cons p kvs ih=>
  intro es x0 hn k i t v hi x
  obtain ⟨e,es,a,b,c,r⟩:=cL.inv (k:=p.1) (t:=p.2) x0
  have hn:=cO.mp hn
  rw [List.findIdx?_cons] at hi
  rw [c8]
  by_cases q:p.1=k
  ·rw [br q,au rfl] at hi
   subst q
   rw [← az hi,au rfl,MW hn.1]
   exact .cons a b x r
  ·rw [eK q,av bO] at hi
   rw [av q]
   exact eU hi fun j hj z=>z▸.cons a b c (ih r hn.2 hj x)
theorem cL.push:∀ {es:List DictEntry},cL W F h kvs es→∀ {k:bL} {kv:Value} {t:T} {v:Value},VR W F h (cb k) kv→VR W F h t v→cL W F h (kvs++[(k,t)]) (es++[⟨eX W k,kv,v⟩]):=by
 induction kvs with
 | nil=>intro es x0 k kv t v x y;rw [x0.inv0];exact .cons x rfl y .nil
 | cons p kvs ih=>
  intro es x0 k kv t v x y
  obtain ⟨e,es,a,b,c,r⟩:=cL.inv (k:=p.1) (t:=p.2) x0
  exact .cons a b c (ih r x y)
set_option tactic.hygienic true in
theorem ki {t:T} (hn:(kvs.map (·.1)).Nodup):((g5 kvs k t).map (·.1)).Nodup:=by
 unfold g5
 split
 ·have:(kvs.map fun p=>if p.1=k then (p.1,t) else p).map (·.1)=kvs.map (·.1):=by
   rw [cp]
   refine iv fun p _=>?_
   show (if p.1=k then (p.1,t) else p).1=p.1
   split<;>rfl
  rw [this];exact hn
 ·rename_i q
  rw [dK,cF]
  refine ⟨hn,by simp,fun a ha b hb e=>q ?_⟩
  simp only [c8,List.map_nil,aV] at hb
  subst hb;subst e
  obtain ⟨p,hp,hk⟩:=bo.mp ha
  rw [List.any_eq_true];exact ⟨p,hp,br hk⟩
theorem hJ {t:T}:(g5 kvs k t).length≤kvs.length+1:=by
 unfold g5;split
 ·rw [ba];lia
 ·rw [bS];exact Nat.le_refl _
theorem qh {P:Prop} {kvs':List (bL×T)} {t:T} (e:lr kvs k t=some kvs') (f:tR k kvs=true→kvs.length < SZ→kvs'=g5 kvs k t→P):P:=
 ifs e fun h z=>f (cz.mp h).1 (bI (cz.mp h).2) z
variable {s:Shared} {A:Around} {E:Value→Shared→Prop} {kvs:List (bL×T)} {es:List DictEntry} {d:Addr} {ep:Nat} {k:bL} {kv:Value}
theorem vU {Q:Option Value→Shared→Prop} (hu:A.units < cLine) (hg:s.heap.get? d=some (aL es ep)) (r:cL W F s.heap kvs es) (hn:(kvs.map (·.1)).Nodup)
  (hh:tR k kvs=true) (hk:VR W ef s.heap (cb k) kv) (q:∀ o tk,Pn W F s.heap (gL kvs k) o→Q o { s with toks:=tk }):wpAny (model W.prog W.w) A (dictGet d kv) Q E s:=by
 unfold dictGet
 refine b4 (ac (I2 hu hk fun tk=>ac (Dp (s:={ s with toks:=tk }) hu hg r hn hh hk ?_)))
 induction hi:kvs.findIdx? fun p=>decide (p.1=k) with
 | none=>exact al (q _ _ (by rw [(iM hi).1];trivial))
 | some i=>
  obtain ⟨t,h1,h2,_⟩:=iS hi
  obtain ⟨e,h3,_,_,h4⟩:=r.at h1
  refine ac (fY (s:={ s with toks:=tk }) hg rfl (al (q _ _ ?_)))
  rw [List.getElem?_toArray,h3,h2];exact h4
theorem Nn {a b:bL} (h:a=b):a.kind=b.kind:=aw _ h
theorem wR {t:T} (hu:A.units < cLine) (hF:¬ F d) (hg:s.heap.get? d=some (aL es ep)) (r:cL W F s.heap kvs es) (hn:(kvs.map (·.1)).Nodup)
  (hh:tR k kvs=true) (hl:kvs.length < SZ) (hk:VR W F s.heap (cb k) kv) (hv:VR W F s.heap t v)
  (q:∀ es' ep' h' tk,h'.get? d=some (aL es' ep')→Heap.SameBut d s.heap h'→cL W F h' (g5 kvs k t) es'→Q () { s with heap:=h',toks:=tk }):wpAny (model W.prog W.w) A (dictSetHashed d kv (eX W k) v) Q E s:=by
 have le:=r.length
 have mono:∀ {h':Heap},Heap.SameBut d s.heap h'→∀ {kvs es},cL W F s.heap kvs es→cL W F h' kvs es:=fun hs _ _ x=>x.mono (fun _ f=>f) fun a o f e=>by rw [hs.2 a (fun z=>hF (z▸f))];exact e
 unfold dictSetHashed
 refine b4 (ac (Dp hu hg r hn hh hk.up ?_))
 induction hi:kvs.findIdx? fun p=>decide (p.1=k) with
 | some i=>
  obtain ⟨t',h1,h2,h3⟩:=iS hi
  refine ac (wpAny_rule (ac (wpAny_updateDict hg rfl (wpAny_point ?_))))
  have hd:g5 kvs k t=kvs.map fun p=>if p.1=k then (p.1,t) else p:=by unfold g5;rw [au h3]
  refine q (es.modify i fun e=>{ e with val:=v }) ep _ _ (li (o:=aL es ep) _ hg rfl |>.trans ?_) (f6 _ _ _) ?_
  ·exact aw (fun x=>some (Obj.mk (.type "dict") none (.dict x ep) #[])) (List.modify_toArray ..)
  ·rw [hd];exact mono (f6 _ _ _) (r.modify hn hi hv)
 | none=>
  obtain ⟨_,h3,_⟩:=iM hi
  refine ac (wpAny_rule (wpAny_updateDictKeys hg rfl ?_ (by rw [cP,← le];have:=Ov;lia)))
  have hd:g5 kvs k t=kvs++[(k,t)]:=by unfold g5;rw [av (by rw [h3];decide)]
  refine q (es++[⟨eX W k,kv,v⟩]) (ep+1) _ _ (li (o:=aL es ep) _ hg rfl |>.trans ?_) (f6 _ _ _) ?_
  ·exact aw (fun x=>some (Obj.mk (.type "dict") none (.dict x (ep+1)) #[])) (List.push_toArray ..)
  ·rw [hd];exact mono (f6 _ _ _) (r.push hk hv)
theorem p6 {t:T} (hu:A.units < cLine) (hF:¬ F d) (hg:s.heap.get? d=some (aL es ep)) (r:cL W F s.heap kvs es) (hn:(kvs.map (·.1)).Nodup)
  (hh:tR k kvs=true) (hl:kvs.length < SZ) (hk:VR W F s.heap (cb k) kv) (hv:VR W F s.heap t v)
  (q:∀ es' ep' h' tk,h'.get? d=some (aL es' ep')→Heap.SameBut d s.heap h'→cL W F h' (g5 kvs k t) es'→Q () { s with heap:=h',toks:=tk }):wpAny (model W.prog W.w) A (dictSet d kv v) Q E s:=by
 unfold dictSet
 exact b4 (ac (I2 hu hk.up fun tk=>wR (s:={ s with toks:=tk }) hu hF hg r hn hh hl hk hv fun es' ep' h' tk'=>q es' ep' h' tk'))
end
end
section
noncomputable def cT (r:Bool) (s:Shared) (v:Value) (s':Shared):Prop:=v=.bool r∧∃ tk,s'={ s with toks:=tk }
theorem cT.now {r:Bool}:cT r s (.bool r) s:=⟨rfl,s.toks,rfl⟩
theorem cT.tk {r:Bool} {t:Nat}:cT r s (.bool r) { s with toks:=t }:=⟨rfl,t,rfl⟩
noncomputable def Py (r:Bool) (s:Shared) (b:Bool) (s':Shared):Prop:=b=r∧∃ tk,s'={ s with toks:=tk }
section
variable {W:Wd} {F:Addr→Prop} {s:Shared} {A:Around} {E:Value→Shared→Prop} {kvs:List (bL×T)} {es:List DictEntry} {d:Addr} {ep:Nat} {k:bL} {kv:Value}
theorem aA (hg:s.heap.get? d=some (aL es ep)):s.TypeIs (.ref d) "dict":=⟨_,hg,rfl⟩
theorem kR {Q:Bool→Shared→Prop} (hu:A.units+5 < cLine) (hs:(d==sysModules)=false) (hg:s.heap.get? d=some (aL es ep)) (r:cL W F s.heap kvs es) (hn:(kvs.map (·.1)).Nodup)
  (hh:tR k kvs=true) (hk:VR W ef s.heap (cb k) kv) (q:∀ tk,Q (gL kvs k).isSome { s with toks:=tk }):wpAny (model W.prog W.w) A (contains (.ref d) kv) Q E s:=by
 delta contains
 refine b4 (ac (wpAny_specialOf (aA hg) slot_dict_contains.lookup ?_))
 show wpAny _ _ (if (some (Value.builtin "dict.__contains__")==some Value.none)=true then _ else _) _ E s
 rw [av (by rw [beq_builtin_none];exact bO)]
 refine ac (wpAny_callSpecialUnlessNone?_slot (name:=Str.ofString "__contains__") (aA hg) slot_dict_contains
  (eP slot_dict_contains (aA hg) entry_dict_contains ?_ (args_dict_contains _ _)))
 show wpAny _ _ (dictGet d kv >>= _) _ _ s
 refine ac (vU (by simp only [Around.in1_units];lia) hg r hn hh hk fun o tk ho=>?_)
 have q:=q tk
 induction hf:gL kvs k with
 | some v=>
  rw [hf] at ho q
  induction o with
  | none=>exact ho.elim
  | some o=>
   show wpAny _ _ (ret (.bool true)) _ _ _
   exact al ⟨_,rfl,wpAny_truthy_bool q⟩
 | none=>
  rw [hf] at ho q
  induction o with
  | some o=>exact ho.elim
  | none=>
   show wpAny _ _ (Builtin.Dict.pendingKey? d kv >>= _) _ _ _
   exact ac (wpAny_pendingKey_other hs (al ⟨_,rfl,wpAny_truthy_bool q⟩))
theorem qQ {β:Type} {M:Model} (n:Nat) (f:Nat→β→Sem (ForInStep β)) (I:Nat→β→Shared→Prop) (Q:β→Shared→Prop) (turn:∀ i b s',i < n→I i b s'→wpAny M A (f i b) (fun r s''=>match r with | .yield b'=>I (i+1) b' s'' | .done b'=>Q b' s'') E s')
  (fin:∀ b s',I n b s'→Q b s') (b:β) (h:I 0 b s):wpAny M A (forIn [0:n] b f) Q E s:=by
 rw [Std.Legacy.Range.forIn_eq_forIn_range']
 simp only [Std.Legacy.Range.size,Nat.sub_zero,Nat.add_sub_cancel,Nat.div_one]
 refine wpAny_forIn_list f (fun rest z s'=>∃ i,rest=List.range' i (n - i)∧i≤n∧I i z s') Q ?_ ?_ _ b ⟨0,rfl,cr _,h⟩
 ·rintro x rest z s' ⟨i,hr,hi,J⟩
  have hlt:i < n:=Nat.lt_of_le_of_ne hi fun e=>by rw [e,Nat.sub_self] at hr;exact nomatch hr
  rw [show n - i=(n - (i+1))+1 from (Nat.succ_pred_eq_of_pos (Nat.sub_pos_of_lt hlt)).symm,List.range'_succ] at hr
  obtain rfl:=(List.cons.inj hr).1
  exact ax (turn x z s' hlt J) (fun r s'' k=>by induction r with
   | yield b'=>exact ⟨x+1,(List.cons.inj hr).2,hlt,k⟩
   | done b'=>exact k) am
 ·rintro z s' ⟨i,hr,hi,J⟩
  have:n - i=0:=by have:=aw List.length hr;rw [List.length_range'] at this;exact this.symm
  obtain rfl:i=n:=Nat.le_antisymm hi (Nat.le_of_sub_eq_zero this)
  exact fin z s' J
theorem vP {a:List (bL×T)} {ea eb:List DictEntry} {da db:Addr} {pa pb:Nat} {nm:String} {Q:Bool→Shared→Prop} (hu:A.units+10+ij a < cLine) (ha:(da==sysModules)=false) (hb:(db==sysModules)=false)
  (ga:s.heap.get? da=some (aL ea pa)) (gb:s.heap.get? db=some (aL eb pb)) (ra:cL W ef s.heap a ea) (rb:cL W ef s.heap b eb) (nb:(b.map (·.1)).Nodup) (hom':∀ p∈a,tR p.1 b=true)
  (hl:a.length=b.length) (hall:∀ p∈a,∃ v,gL b p.1=some v∧AA p.2 v=some true) (hdep:∀ p∈a,depth p.2≤ij a) (q:Q true s):wpAny (model W.prog W.w) A (Builtin.Dict.samePairs nm da db) Q E s:=by
 have la:=ra.length
 have lb:=rb.length
 delta Builtin.Dict.samePairs Builtin.Dict.showsAll
 refine ac (bD (by refine Eq.symm (ha)▸?_;exact bO) (al (ac (bD (by refine Eq.symm (hb)▸?_;exact bO) (al ?_)))))
 refine ac (fY ga rfl (ac (fY gb rfl (bD (fun h=>(bne_iff_ne.mp h) (la.symm.trans (hl.trans lb))) (ac (wpAny_dictEpoch ga rfl (ac ?_)))))))
 refine qQ ea.length _ (fun _ z s'=>s'=s∧z=(none,())) _ (fun x z s' hx I=>?_) (fun z s' I=>?_) _ ⟨rfl,rfl⟩
 ·obtain ⟨rfl,rfl⟩:=I
  have hlt':x < a.length:=by refine Eq.symm (la)▸?_;exact hx
  have hmem:a[x]∈a:=List.getElem_mem hlt'
  obtain ⟨e,he,hk,hh,hv⟩:=ra.at (i:=x) (k:=a[x].1) (t:=a[x].2) (cq hlt')
  refine ac (fY ga rfl ?_)
  rw [List.getElem?_toArray,he]
  refine ac (m:=holding [e.key,e.val] _) (b4 ?_)
  refine Eq.symm (hh)▸?_
  obtain ⟨u,hu1,hu2⟩:=hall _ hmem
  refine ac (Dp (eG (aI (Nat.le_add_right _ 10) (Nat.le_add_right _ _)) hu) gb rb nb (hom' _ hmem) hk ?_)
  induction hj:b.findIdx? fun p=>decide (p.1=a[x].1) with
  | none=>exact nn ((iM hj).1.symm.trans hu1)
  | some j=>
   obtain ⟨u',h1,h2,_⟩:=iS hj
   obtain rfl:=az (h2.symm.trans hu1)
   obtain ⟨e',he',_,_,hv'⟩:=rb.at h1
   refine ac (fY gb rfl ?_)
   rw [List.getElem?_toArray,he']
   refine b4 (Fz hu2 hv hv' (eG (Nat.add_le_add (Nat.le_add_right _ 10) (hdep _ hmem)) hu) W.prog W.w _ _ (bD bO (ac (wpAny_dictEpoch ga rfl (bD (by simp) (al ⟨rfl,rfl⟩))))))
 ·obtain ⟨rfl,rfl⟩:=I
  exact al q
theorem NN {v:T} (h:gL b k=some v):∃ p∈b,p.1=k:=by
 delta gL at h
 obtain ⟨p,hp,_⟩:=oK.mp h
 have:=List.find?_some hp
 exact ⟨p,List.mem_of_find?_eq_some hp,bI this⟩
theorem yt {a:List (bL×T)} {p:bL×T}:p∈a→depth p.2≤ij a:=by
 induction a with
 | nil=>intro h;exact nomatch h
 | cons q a ih=>
  intro h
  rcases aU.mp h with rfl | h
  ·exact Nat.le_max_left _ _
  ·exact aI (ih h) (Nat.le_max_right _ _)
theorem ID {a:List (bL×T)} {r:Bool} (e:NY a b=some r):r=true∧a.length=b.length∧(∀ p∈a,tR p.1 b=true)∧∀ p∈a,∃ v,gL b p.1=some v∧AA p.2 v=some true:=
 ifs e fun h z=>⟨z,h.1,fun p hp=>(cz.mp (aY.mp h.2 p hp)).1,fun p hp=>by
  have:=(cz.mp (aY.mp h.2 p hp)).2
  induction q:gL b p.1 with
  | none=>rw [q] at this;exact bt this
  | some v=>rw [q] at this;exact ⟨v,rfl,bp.mp this⟩⟩
theorem D1 {a:List (bL×T)} {r:Bool} (hu:A.units+20+ij a < cLine) (x:VR W ef s.heap (.dict a) va) (y:VR W ef s.heap (.dict b) vb) (e:NY a b=some r) :
  wpAny (model W.prog W.w) A (compareOp .Eq va vb) (cT r s) E s∧wpAny (model W.prog W.w) A (compareOp .NotEq va vb) (cT (!r) s) E s:=by
 obtain ⟨rfl,hl,hh,hall⟩:=ID e
 obtain ⟨ea,da,pa,rfl,ga,_,na,sa,ra⟩:=x.q.dict_inv
 obtain ⟨eb,db,pb,rfl,gb,_,nb,sb,rb⟩:=y.q.dict_inv
 have sp:∀ {nm:String} {A':Around} {E'} {Q:Bool→Shared→Prop},A'.units≤A.units+5→Q true s→wpAny (model W.prog W.w) A' (Builtin.Dict.samePairs nm da db) Q E' s:=fun hA q=>vP (by lia) sa sb ga gb ra rb nb hh hl hall (fun p hp=>yt hp) q
 refine ⟨?_,?_⟩
 ·refine wpAny_richCompare_same_room (op:=.Eq) (aA ga) (aA gb) PySem.F.slot_dict_eq (eP PySem.F.slot_dict_eq (aA ga) PySem.F.entry_dict_eq ?_ (PySem.F.args_dict_eq_2 _ _)) (by lia)
  show wpAny _ _ (Builtin.Dict.dictSlotArgs "__eq__" ⟨[.ref da,.ref db],[]⟩ >>= _) _ _ s
  refine ac ?_
  delta Builtin.Dict.dictSlotArgs
  refine ac (wpAny_notOrdered_dict (aA ga) ?_)
  show wpAny _ _ (pure (Value.ref da,Value.ref db)) _ _ s
  refine al ?_
  refine ac (wpAny_isInstance (T:="dict") (aA gb) PySem.F.sub_dict_dict ?_)
  simp only [Bool.not_true,Bool.false_eq_true,if_false]
  refine ac (al (ac (al ?_)))
  refine ac (sp (by simp only [Around.in1_units];lia) ?_)
  exact al ⟨_,rfl,(fun x=>nomatch x),cT.now⟩
 ·refine wpAny_richCompare_same_room (op:=.NotEq) (aA ga) (aA gb) PySem.F.slot_dict_ne (eP PySem.F.slot_dict_ne (aA ga) PySem.F.entry_dict_ne ?_ (PySem.F.args_dict_ne_2 _ _)) (by lia)
  show wpAny _ _ (Builtin.Dict.dictSlotArgs "__ne__" ⟨[.ref da,.ref db],[]⟩ >>= _) _ _ s
  refine ac ?_
  delta Builtin.Dict.dictSlotArgs
  refine ac (wpAny_notOrdered_dict (aA ga) ?_)
  show wpAny _ _ (pure (Value.ref da,Value.ref db)) _ _ s
  refine al ?_
  refine ac (wpAny_isInstance (T:="dict") (aA gb) PySem.F.sub_dict_dict ?_)
  simp only [Bool.not_true,Bool.false_eq_true,if_false]
  refine ac (al (ac (al ?_)))
  refine ac (sp (by simp only [Around.in1_units];lia) ?_)
  exact al ⟨_,rfl,(fun x=>nomatch x),cT.now⟩
theorem DM (i a:Int) (u:Tok):Value.isInt i (.int a u)=(a==i):=rfl
theorem Oz (x y:Str) (u:Tok):(match Value.str y u with | .str y _=>y.cps.toList==x.cps.toList | _=>false)=(y.cps.toList==x.cps.toList):=rfl
theorem vK (a i:Int):(a==i)=(i==a):=by
 by_cases h:a=i
 ·subst h;rfl
 ·rw [eF.mpr h,eF.mpr (Ne.symm h)]
theorem Hg {l:List Int} {i:Int} {t:Tok}:∀ {vs:List Value},bR W ef s.heap (l.map .int) vs→(∀ y∈vs,SeqAt.EqAt A.in1 s y (.int i t) (Value.isInt i y))∧vs.any (Value.isInt i)=l.contains i:=by
 induction l with
 | nil=>intro vs r;refine Eq.symm (r.inv0)▸?_;exact ⟨(fun _ h=>nomatch h),rfl⟩
 | cons a l ih=>
  intro vs r
  obtain ⟨v,vs,x,r2⟩:=bR.inv (t:=.int a) (ts:=l.map .int) r
  obtain ⟨h1,h2⟩:=ih r2
  obtain ⟨u,h⟩:=x.q.int_inv
  refine Eq.symm (h)▸?_
  refine ⟨fun y hy=>?_,by rw [List.any_cons,h2,List.contains_cons,DM,vK]⟩
  rcases aU.mp hy with rfl | hy
  ·exact (MeetsSeq.EqGives.int a i u t).at A.in1 s
  ·exact h1 y hy
noncomputable def w9 (x:Str):Value→Bool | .str y _=>y.cps.toList==x.cps.toList | _=>false
theorem IP {a b:Str}:(a.cps.toList==b.cps.toList)=decide (a=b):=by
 by_cases q:a=b
 ·subst q;simp
 ·refine Eq.symm (eK q)▸?_
  exact eF.mpr fun e=>q (by obtain ⟨a⟩:=a;obtain ⟨b⟩:=b;exact aw Str.mk (Array.toList_inj.mp e))
theorem ME {x y:Str} {j:Nat} {u:Tok} (hx:bm i x) (hy:bm j y):w9 x (.str y u)=(i==j):=by
 show (y.cps.toList==x.cps.toList)=(i==j)
 refine Eq.symm (IP)▸?_
 by_cases q:y=x
 ·subst q;refine Eq.symm (hx.inj hy)▸?_;simp
 ·have:i≠j:=fun z=>q (by subst z;exact hy.fn hx)
  simp [q,this]
theorem KI {a:T} (h:Kl a=true):∃ j,a=.str j:=by
 cases a with
 | str j=>exact ⟨j,rfl⟩
 | _=>exact bt h
theorem HJ {x:Str} {t:Tok} (hx:bm i x) (e:xs.all Kl=true):∀ {vs:List Value},bR W ef s.heap xs vs→
  (∀ y∈vs,SeqAt.EqAt A.in1 s y (.str x t) (w9 x y))∧vs.any (w9 x)=xs.any (PA i):=by
 induction xs with
 | nil=>intro vs r;refine Eq.symm (r.inv0)▸?_;exact ⟨(fun _ h=>nomatch h),rfl⟩
 | cons a l ih=>
  intro vs r
  obtain ⟨v,vs,z,r2⟩:=r.inv
  have e:=cz.mp e
  obtain ⟨h1,h2⟩:=ih e.2 r2
  obtain ⟨j,rfl⟩:=KI e.1
  obtain ⟨y,u,rfl,hy⟩:=z.q.str_inv
  refine ⟨fun y' hy'=>?_,by rw [List.any_cons,List.any_cons,h2,ME hx hy];rfl⟩
  rcases aU.mp hy' with rfl | hy'
  ·exact MeetsSeq.EqGives.at (SeqRoads2.EqGives.str y x u t) A.in1 s
  ·exact h1 y' hy'
theorem xv {h:Heap} {a:T} (x:dZ W F h a v):(v==.none)=bZ a:=by
 have x:=x.up
 cases a with
 | none=>refine Eq.symm (x.q.none_inv)▸?_;rfl
 | bool _=>refine Eq.symm (x.q.bool_inv)▸?_;rfl
 | int _=>obtain ⟨t,h⟩:=x.q.int_inv;refine Eq.symm (h)▸?_;rfl
 | str _=>obtain ⟨y,t,h,_⟩:=x.q.str_inv;refine Eq.symm (h)▸?_;rfl
 | tup _=>obtain ⟨_,_,_,h,_⟩:=x.tup_inv;refine Eq.symm (h)▸?_;rfl
 | list _=>obtain ⟨_,_,_,h,_⟩:=x.list_inv;refine Eq.symm (h)▸?_;rfl
 | dict _=>obtain ⟨_,_,_,h,_⟩:=x.q.dict_inv;refine Eq.symm (h)▸?_;rfl
 | set _=>obtain ⟨_,h,_⟩:=x.q.set_inv;refine Eq.symm (h)▸?_;rfl
 | dvals _=>obtain ⟨_,_,_,_,h,_⟩:=x.q.dvals_inv;refine Eq.symm (h)▸?_;rfl
 | rng _=>obtain ⟨_,_,_,_,h,_⟩:=x.q.rng_inv;refine Eq.symm (h)▸?_;rfl
 | inst _ _=>obtain ⟨_,_,_,_,h,_⟩:=x.q.inst_inv;refine Eq.symm (h)▸?_;rfl
noncomputable def NM (W:Wd) (A:Around) (E:Value→Shared→Prop) (s:Shared) (op op':CmpOp) (va vb:Value) (r:Bool):Prop:=wpAny (model W.prog W.w) A (compareOp op va vb) (cT r s) E s∧wpAny (model W.prog W.w) A (compareOp op' va vb) (cT (!r) s) E s
theorem Am {a b:T} {r:Bool} (hu:A.units+100 < cLine) (x:dZ W F s.heap a va) (y:dZ W F s.heap b vb) (hd:depth a≤60) (e:Ka a b=some r):NM W A E s .Eq .NotEq va vb r:=by
 delta Ka at e
 induction h:lf a with
 | some p=>
  rw [h] at e
  have h:=km h
  subst h
  exact dy e fun q h1 e=>D1 (by have:ij p+1≤60:=hd;lia) x.up (km h1▸y).up e
 | none=>
  rw [h] at e
  have h:=zb e x.up y.up (A:=A) (by lia)
  exact ⟨h.1 W.prog W.w _ _ cT.now,h.2 W.prog W.w _ _ cT.now⟩
theorem zC {a b:T} {r:Bool} (hu:A.units+100 < cLine) (x:dZ W F s.heap a va) (y:dZ W F s.heap b vb) (e:O3 a b=some r):NM W A E s .In .NotIn va vb r:=by
 refine cps fun G kk=>?_
 cases b with
 | dict kvs=>
  refine kk (dy e fun k hk e=>ifs e fun hh z=>?_)
  obtain ⟨es,d,ep,rfl,g,_,n,sy,rr⟩:=y.dict_inv
  have k2:VR W ef s.heap (cb k) va:=gJ hk▸x.up
  refine Eq.symm (z)▸?_
  exact ⟨ac (kR (by lia) sy g rr n hh k2 fun tk=>al cT.tk),ac (kR (by lia) sy g rr n hh k2 fun tk=>al cT.tk)⟩
 | set xs=>
  refine kk (eU e fun i hi z=>?_)
  obtain ⟨t,rfl⟩:=(cB hi▸x).int_inv
  obtain ⟨d,rfl,_,hS⟩:=y.set_inv
  refine Eq.symm (z)▸?_
  exact ⟨wpAny_inSet_of (knd:=intKind W.prog W.w) (k:=i) ux rfl hS.of cT.tk,wpAny_notInSet_of (knd:=intKind W.prog W.w) (k:=i) ux rfl hS.of cT.tk⟩
 | list xs=>
  refine kk (dy e fun i hi e=>eU e fun l hl z=>?_)
  obtain ⟨t,rfl⟩:=(cB hi▸x).int_inv
  obtain ⟨vs,d,n,rfl,g,_,rr⟩:=y.list_inv
  obtain ⟨h1,h2⟩:=Hg (A:=A) (i:=i) (t:=t) (ew hl▸rr.up)
  rw [z,← h2]
  exact ⟨SeqAt.in_listAt (Value.isInt i) (pg g) (by simpa using h1) (by simpa using cT.now),SeqAt.notIn_listAt (Value.isInt i) (pg g) (by simpa using h1) (by simpa using cT.now)⟩
 | tup xs=>
  refine kk (dy e fun i hi e=>ifs e fun hall e=>?_)
  obtain ⟨z,t,rfl,hz⟩:=(yK hi▸x).str_inv
  obtain ⟨vs,d,n,rfl,g,_,rr⟩:=y.tup_inv
  obtain ⟨h1,h2⟩:=HJ (A:=A) (i:=i) (t:=t) hz hall rr.up
  rw [e,← h2]
  exact ⟨SeqAt.in_tupleAt (w9 z) (KM g) (by simpa using h1) (by simpa using cT.now),SeqAt.notIn_tupleAt (w9 z) (KM g) (by simpa using h1) (by simpa using cT.now)⟩
 | _=>exact nn e
theorem y3 {op:CmpOp} {a b:T} {r:Bool} (hu:A.units+100 < cLine) (x:dZ W F s.heap a va) (y:dZ W F s.heap b vb) (e:kD op a b=some r):wpAny (model W.prog W.w) A (compareOp op va vb) (cT r s) E s:=by
 have ord:∀ {f} {P:Prop},FM f a b=some r→(∀ p q t u,va=.int p t→vb=.int q u→r=f p q→P)→P:=fun e k=>dy e fun p h1 e=>eU e fun q h2 z=>
  (cB h1▸x).int_inv.elim fun t h3=>(cB h2▸y).int_inv.elim fun u h4=>k p q t u h3 h4 z
 induction op with
 | Eq=>exact sD e fun hd e=>(Am hu x y hd e).1
 | NotEq=>exact sD e fun hd e=>eU e fun r' h1 z=>z▸(Am hu x y hd h1).2
 | In=>exact (zC hu x y e).1
 | NotIn=>exact eU e fun r' h1 z=>z▸(zC hu x y h1).2
 | Is=>exact ifs e fun h z=>by have y':dZ W F s.heap .none vb:=nr h▸y;refine Eq.symm (y'.none_inv)▸?_;exact is_none_gen (by rw [xv x,← z];exact cT.now)
 | IsNot=>exact ifs e fun h z=>by have y':dZ W F s.heap .none vb:=nr h▸y;refine Eq.symm (y'.none_inv)▸?_;exact PySem.isNot_none (by rw [xv x,← z];exact cT.now)
 | Lt=>exact ord e fun p q t u h1 h2 z=>by rw [h1,h2,z];exact P.lt_int cT.now
 | LtE=>exact ord e fun p q t u h1 h2 z=>by rw [h1,h2,z];exact P.le_int cT.now
 | Gt=>exact ord e fun p q t u h1 h2 z=>by rw [h1,h2,z];exact P.gt_int cT.now
 | GtE=>exact ord e fun p q t u h1 h2 z=>by rw [h1,h2,z];exact P.ge_int cT.now
end
end
section
inductive JJ (i:Int) (s:Shared) (v:Value) (s':Shared):Prop where
 | mk (u:Tok) (tk:Nat) (h1:v=.int i u) (h2:s'={ s with toks:=tk })
theorem JJ.res {i:Int} (x:JJ i s v s'):fy W F s (.int i) v s':=by
 obtain ⟨u,tk,rfl,rfl⟩:=x;exact .of_toks (.int _ _)
theorem cT.res {r:Bool} (x:cT r s v s'):fy W F s (.bool r) v s':=by
 obtain ⟨rfl,tk,rfl⟩:=x;exact .of_toks (.bool _)
theorem ic (h:n≤SZ):(n:Int) < 2 ^ 63:=by have:SZ=1048576:=rfl;lia
section
variable {W:Wd} {F:Addr→Prop} {s:Shared} {A:Around} {E:Value→Shared→Prop} {kvs:List (bL×T)} {es:List DictEntry} {d:Addr} {ep:Nat} {k:bL} {kv:Value}
theorem yi (hs:(d==sysModules)=false) :
  MeetsIn W.prog W.w (Builtin.«dict.__len__» ⟨[.ref d],[]⟩) (fun _ R s=>s.heap.get? d=some (aL es ep)∧R (.ok (.ret (.int es.length s.toks))) { s with toks:=s.toks+1 }):=
 .of_wp fun A R s ⟨hg,h⟩=>by
  show wpAny _ _ (dictSize d >>= _) _ _ s
  unfold dictSize
  refine ac (ac (fY hg rfl (al ?_)))
  show wpAny _ _ (Builtin.Dict.pendingCount d >>= _) _ _ s
  refine ac (wpAny_pendingCount_other hs ?_)
  refine wpAny_ret_mkInt ?_
  rw [Nat.add_zero,cP];exact h
theorem qr (hs:(d==sysModules)=false) (hg:s.heap.get? d=some (aL es ep)) (hfit:(es.length:Int) < 2 ^ 63) {Q:Value→Shared→Prop}
  (h:Q (.int es.length (s.toks+1)) { s with toks:=s.toks+1+1 }):wpAny (model W.prog W.w) A (Builtin.«len» ⟨[.ref d],[]⟩) (fun fin s'=>∃ r,fin=.done (.ret r)∧Q r s') E s:=by
 unfold Builtin.«len»
 refine ac (m:=oneArg "len" _) (al ?_)
 refine ac (m:=callSpecial? (.ref d) "__len__") (wpAny_callSpecial?_slot (name:=Str.ofString "__len__") (aA hg) PySem.F.slot_dict_len
  (call_meetsIn PySem.F.slot_dict_len (aA hg) PySem.F.entry_dict_len (PySem.F.args_dict_len_1 _) (yi hs) ⟨hg,?_⟩))
 show wpAny _ _ _ _ _ { s with toks:=s.toks+1 }
 refine ac (b4 (al ?_))
 refine ac (wpAny_letGo ?_)
 show wpAny _ _ (if ((es.length:Nat):Int) < 0 then _ else _) _ _ _
 rw [av (by lia)]
 show wpAny _ _ (if ((es.length:Nat):Int) ≥ 2 ^ 63 then _ else _) _ _ _
 rw [av (by lia)]
 exact ac (wpAny_mkInt (al ⟨_,rfl,h⟩))
theorem D4 (hs:(d==sysModules)=false) (hg:s.heap.get? d=some (aL es ep)) (hfit:(es.length:Int) < 2 ^ 63) {Q:Bool→Shared→Prop} (h:Q (!es.isEmpty) { s with toks:=s.toks+1+1 }):wpAny (model W.prog W.w) A (truthy (.ref d)) Q E s:=by
 have hne:((es.length:Int) != 0)=!es.isEmpty:=by induction es<;>simp<;>lia
 have key:wpAny (model W.prog W.w) A (runValue (.builtin "len" ⟨[.ref d],[]⟩)) (fun r s'=>r=.int es.length (s.toks+1)∧Q (!es.isEmpty) s') E s:=by
  refine wpAny_runValue (codeAny_builtin entry_len ?_)
  rw [Around.under_plainId plain_len _]
  exact ax (qr (Q:=fun r s'=>r=.int es.length (s.toks+1)∧Q (!es.isEmpty) s') hs hg hfit ⟨rfl,h⟩)
   (fun fin s' h'=>by obtain ⟨r,rfl,hq⟩:=h';exact hq) am
 unfold truthy
 first
  | refine ac (wpAny_callSpecial?_none (name:=Str.ofString "__bool__") (aA hg) noBool_dict ?_)
  | refine ac (al (ac (wpAny_callSpecial?_none (name:=Str.ofString "__bool__") (aA hg) noBool_dict ?_)))
 first
  | refine ac (wpAny_specialOf (name:=Str.ofString "__len__") (aA hg) PySem.F.slot_dict_len.lookup ?_)
  | refine ac (al (ac (wpAny_specialOf (name:=Str.ofString "__len__") (aA hg) PySem.F.slot_dict_len.lookup ?_)))
 first
  | exact ac (ax key (fun r s' h'=>by obtain ⟨rfl,hq⟩:=h';exact al (hne▸hq)) am)
  | exact ac (al (ac (ax key (fun r s' h'=>by obtain ⟨rfl,hq⟩:=h';exact al (hne▸hq)) am)))
theorem dM {β:Type} {xs:List α} {ys:List β} (h:xs.length=ys.length):xs.isEmpty=ys.isEmpty:=by
 induction xs<;>induction ys<;>first | rfl | simp at h
theorem qU {a:T} {r:Bool} (x:dZ W F s.heap a v) (e:rT a=some r):wpAny (model W.prog W.w) A (truthy v) (Py r s) E s:=by
 cases a with
 | bool b=>obtain rfl:=az e;rw [x.bool_inv];exact wpAny_truthy_bool ⟨rfl,s.toks,rfl⟩
 | int i=>obtain rfl:=az e;obtain ⟨t,rfl⟩:=x.int_inv;exact PyProof.Rows.truthy_int ⟨rfl,s.toks,rfl⟩
 | tup xs=>
  obtain rfl:=az e
  obtain ⟨vs,a,n,rfl,g,l,rr⟩:=x.tup_inv
  refine truthy_tuple (CL g) (by rw [cP,← rr.length];exact ic l) ⟨?_,_,rfl⟩
  rw [List.isEmpty_toArray,dM rr.length]
 | list xs=>
  obtain rfl:=az e
  obtain ⟨vs,a,n,rfl,g,l,rr⟩:=x.list_inv
  refine wpAny_truthy_list (pg g) (by rw [cP,← rr.length];exact ic l) ⟨?_,_,rfl⟩
  rw [List.isEmpty_toArray,dM rr.length]
 | dict kvs=>
  obtain rfl:=az e
  obtain ⟨es,d,ep,rfl,g,l,_,hs,rr⟩:=x.dict_inv
  refine D4 hs g (by rw [← rr.length];exact ic l) ⟨?_,_,rfl⟩
  rw [dM rr.length]
 | _=>exact nn e
theorem MB {a:T} (x:dZ W F s.heap a v) (e:N0 a=some n):wpAny (model W.prog W.w) A (call (.builtin "len") [v]) (JJ n s) E s:=by
 cases a with
 | tup xs=>
  obtain rfl:=az e
  obtain ⟨vs,a,n,rfl,g,l,rr⟩:=x.tup_inv
  exact len_tuple (CL g) (by rw [cP,← rr.length];exact ic l) ⟨_,_,by rw [cP,← rr.length],rfl⟩
 | list xs=>
  obtain rfl:=az e
  obtain ⟨vs,a,n,rfl,g,l,rr⟩:=x.list_inv
  exact Calls.call_len_list (pg g) (by rw [cP,← rr.length];exact ic l) ⟨_,_,by rw [cP,← rr.length],rfl⟩
 | dict kvs=>
  obtain rfl:=az e
  obtain ⟨es,d,ep,rfl,g,l,_,hs,rr⟩:=x.dict_inv
  exact Calls.call_function_entry kind_len plain_len entry_len (args_len1 _) (qr hs g (by rw [← rr.length];exact ic l) ⟨_,_,by rw [← rr.length],rfl⟩)
 | set xs=>
  obtain rfl:=az e
  obtain ⟨d,rfl,l,hS⟩:=x.set_inv
  obtain ⟨o,es,ep,t,ho,hex,hd,_,_,_,hf,hn⟩:=hS.of
  exact call_len_set ho hex hd hf (by rw [hn];exact ic l) ⟨_,_,by rw [hn],rfl⟩
 | _=>exact nn e
theorem xC {i:Int} {j:Nat} (e:idxOf i xs.length=some j):j < xs.length∧((0≤i∧j=i.toNat)∨(i=-1∧j=xs.length - 1)):=by
 refine kG e (fun h e=>ifs e fun h' z=>⟨z▸h',.inl ⟨h,z⟩⟩) fun e=>ifs e fun h z=>⟨?_,.inr ⟨h.1,z⟩⟩
 rw [z];exact Nat.sub_lt h.2 Nat.one_pos
theorem OC (h:n - 1 < n):(-1:Int)+n=((n - 1:Nat):Int):=by
 induction n with
 | zero=>exact absurd h (f7 0)
 | succ m=>exact (Int.add_comm _ _).trans (Int.add_neg_cancel_right (m:Int) 1)
theorem NZ {k:Int} (h0:0≤k) (h:k.toNat < n) (hS:(n:Int) < 2 ^ 63):k < 2 ^ 63:=Int.lt_trans (Int.toNat_of_nonneg h0▸Int.ofNat_lt.mpr h) hS
theorem Oi {k:Int} {j:Nat} (h:j < n) (hj:(0≤k∧j=k.toNat)∨(k=-1∧j=n - 1)) (hS:(n:Int) < 2 ^ 63):-(2 ^ 63)≤k∧k < 2 ^ 63:=
 hj.elim (fun e=>⟨Int.le_trans (by decide) e.1,NZ e.1 (e.2▸h) hS⟩) fun e=>e.1▸⟨by decide,by decide⟩
theorem MO {i:Int} {j:Nat} (hj:j < n) (h:(0≤i∧j=i.toNat)∨(i=-1∧j=n - 1)):seqIndex? i n=some j:=by
 have key:∀ k:Nat,k < n→(if (0≤(k:Int)&&(k:Int) < n)=true then some (k:Int).toNat else none)=some k:=fun k h=>au (cz.mpr ⟨br (hE k),br (Int.ofNat_lt.mpr h)⟩)
 unfold seqIndex?
 rcases h with ⟨h0,rfl⟩ | ⟨rfl,rfl⟩
 ·obtain ⟨k,rfl⟩:=jl h0
  rw [av (Int.not_lt.mpr h0)];exact key k hj
 ·rw [au (show (-1:Int) < 0 by decide),OC hj];exact key _ hj
theorem r8 {o i t:T} {vi:Value} (hu:A.units+20 < cLine) (x:dZ W F s.heap o vo) (y:dZ W F s.heap i vi) (e:getItem o i=some t):wpAny (model W.prog W.w) A (PySem.getItem vo vi) (fy W F s t) E s:=by
 refine cps fun G kk=>?_
 cases o with
 | tup xs=>
  refine kk (dy e fun k hk e=>dy e fun j hj ht=>?_)
  obtain ⟨hlt,hij⟩:=xC hj
  obtain ⟨vs,a,n,rfl,g,l,rr⟩:=x.tup_inv
  obtain ⟨u,rfl⟩:=(cB hk▸y).int_inv
  obtain ⟨v,hv,rv⟩:=rr.get ht
  have hS:=ic l
  have hl:xs.length=vs.length:=rr.length
  exact getItem_tuple (CL g) (Oi hlt hij hS).1 (Oi hlt hij hS).2 (by rw [cP];exact MO (hl▸hlt) (by rw [← hl];exact hij)) (List.getElem?_toArray.trans hv) (.of_same rv)
 | list xs=>
  refine kk (dy e fun k hk e=>dy e fun j hj ht=>?_)
  obtain ⟨hlt,hij⟩:=xC hj
  obtain ⟨vs,a,n,rfl,g,l,rr⟩:=x.list_inv
  obtain ⟨u,rfl⟩:=(cB hk▸y).int_inv
  obtain ⟨v,hv,rv⟩:=rr.get ht
  have hS:=ic l
  have hl:xs.length=vs.length:=rr.length
  rcases hij with ⟨h0,rfl⟩ | ⟨rfl,rfl⟩
  ·exact wpAny_getItem_list (pg g) h0 (NZ h0 hlt hS) (List.getElem?_toArray.trans hv) (.of_same rv)
  ·refine wpAny_getItem_list_neg (pg g) (by decide) (Int.neg_le_neg (Int.ofNat_le.mpr (hl▸eG (cr _) hlt:1≤vs.length))) (by decide) ?_ (.of_same rv)
   rw [List.getElem?_toArray,cP]
   rw [← hl,OC hlt];exact hv
 | dict kvs=>
  refine kk (dy e fun k hk e=>sD e fun hh e=>?_)
  obtain ⟨es,d,ep,rfl,g,_,n,sy,rr⟩:=x.dict_inv
  have k2:VR W ef s.heap (cb k) vi:=gJ hk▸y.up
  unfold PySem.getItem
  try with_reducible refine b4 ?_
  first | refine ac (al ?_) | skip
  refine ac (wpAny_sequenceKey (aA g) (by decide) ?_)
  refine ac (wpAny_callSpecial?_slot (name:=Str.ofString "__getitem__") (aA g) slot_dict_getitem
   (eP slot_dict_getitem (aA g) entry_dict_getitem ?_ (args_dict_getitem _ _)))
  refine ac (m:=dictGet d vi) (vU (eG (Nat.add_le_add_left (by decide:1≤20) _) hu) g rr n hh k2 fun o tk ho=>?_)
  rw [e] at ho
  induction o with
  | none=>exact ho.elim
  | some v=>exact al ⟨v,rfl,al (.of_toks ho)⟩
 | _=>exact nn e
end
end
section
noncomputable def ge (W:Wd) (F:Addr→Prop) (as:List Addr) (s:Shared) (t:T) (v:Value) (s':Shared):Prop:=
 gu W F s'.heap as t v∧(∀ b o,b∉as→s.heap.get? b=some o→s'.heap.get? b=some o)∧s'.gens=s.gens∧s'.os=s.os
theorem bR.set {h:Heap} {t:T} (y:VR W F h t v):∀ {vs:List Value},bR W F h xs vs→∀ (i:Nat),bR W F h (xs.set i t) (vs.set i v):=by
 induction xs with
 | nil=>intro vs x i;rw [x.inv0];exact .nil
 | cons a xs ih=>
  intro vs x i
  obtain ⟨b,vs,x1,r⟩:=x.inv
  induction i with
  | zero=>exact .cons y r
  | succ i=>exact .cons x1 (ih r i)
section
variable {W:Wd} {F:Addr→Prop} {s:Shared} {A:Around} {E:Value→Shared→Prop} {as:List Addr}
theorem yQ {tk:Nat} (hF:¬ F a) (hs:Heap.SameBut a s.heap h') (hg:h'.get? a=some (seqObj "list" vs.toArray n)) (r:bR W F s.heap xs vs) (l:xs.length≤SZ) :
  ge W F [a] s (.list xs) (.ref a) { s with heap:=h',toks:=tk }:=by
 refine ⟨.list rfl hg l (r.mono (fun _ f=>f) fun b o f e=>?_),fun b o hb e=>?_,rfl,rfl⟩
 ·exact (hs.2 b (fun z=>hF (z▸f))).trans e
 ·exact (hs.2 b (fun z=>hb (by rw [z];exact aV.mpr rfl))).trans e
theorem xK {ep:Nat} {tk:Nat} (hF:¬ F a) (hs:Heap.SameBut a s.heap h') (hg:h'.get? a=some (aL es ep)) (r:cL W F h' kvs es) (l:kvs.length≤SZ)
  (n:(kvs.map (·.1)).Nodup∧(a==sysModules)=false):ge W F [a] s (.dict kvs) (.ref a) { s with heap:=h',toks:=tk }:=by
 refine ⟨.dict rfl hg l n r,fun b o hb e=>?_,rfl,rfl⟩
 exact (hs.2 b (fun z=>hb (by rw [z];exact aV.mpr rfl))).trans e
theorem yy {c:String} {xs:Array Value} (f:Array Value→Array Value):∃ n',Obj.mapSeq f (seqObj c xs n)=seqObj c (f xs) n':=⟨_,rfl⟩
inductive OU (W:Wd) (F:Addr→Prop) (h:Heap) (xs:List T):List Addr→Value→Prop where
 | mk (vs:List Value) (a:Addr) (n:Nat) (g:h.get? a=some (seqObj "list" vs.toArray n)) (l:xs.length≤SZ) (r:bR W F h xs vs):OU W F h xs [a] (.ref a)
theorem gu.l {h:Heap} (x:gu W F h as (.list xs) v):OU W F h xs as v:=by
 cases x with | list e g l r=>rw [e];exact ⟨_,_,_,g,l,r⟩
inductive OS (W:Wd) (F:Addr→Prop) (h:Heap) (kvs:List (bL×T)):List Addr→Value→Prop where
 | mk (es:List DictEntry) (a:Addr) (ep:Nat) (g:h.get? a=some (aL es ep)) (l:kvs.length≤SZ) (n:(kvs.map (·.1)).Nodup∧(a==sysModules)=false) (r:cL W F h kvs es):OS W F h kvs [a] (.ref a)
theorem gu.d {h:Heap} (x:gu W F h as (.dict kvs) v):OS W F h kvs as v:=by
 cases x with | dict e g l n r=>rw [e];exact ⟨_,_,_,g,l,n,r⟩
theorem jr {ys:List T} {f:Array Value→Array Value} (hF:¬ F a) (hg:s.heap.get? a=some (seqObj "list" vs.toArray n)) (e:f vs.toArray=us.toArray) (r:bR W F s.heap ys us) (l:ys.length≤SZ) :
  ge W F [a] s (.list ys) (.ref a) { s with heap:=s.heap.update a (Obj.mapSeq f) }:=by
 obtain ⟨n',hn'⟩:=yy (c:="list") (xs:=vs.toArray) (n:=n) f
 refine yQ (tk:=s.toks) (vs:=us) hF (f6 _ _ _) (n:=n') ?_ r l
 refine (li (Obj.mapSeq f) hg (by rw [hn'];rfl)).trans ?_
 rw [hn',e]
theorem yG {o i v t:T} {vi vv:Value} (hu:A.units+20 < cLine) (hF:∀ a∈as,¬ F a) (x:gu W F s.heap as o vo) (y:VR W F s.heap i vi) (z:VR W F s.heap v vv) (e:j5 o i v=some t) :
  wpAny (model W.prog W.w) A (setItem vo vi vv) (fun _ s'=>ge W F as s t vo s') E s:=by
 refine cps fun G kk=>?_
 cases o with
 | list xs=>
  refine kk (dy e fun k hk e=>ifs e fun hk2 e=>?_)
  rw [e]
  obtain ⟨vs,a,n,hg,l,r⟩:=x.l
  obtain ⟨u,rfl⟩:=(cB hk▸y).q.int_inv
  have hl:=r.length
  have hF':¬ F a:=hF a (.head _)
  have hfit:=ic l
  unfold setItem
  try with_reducible refine b4 ?_
  first | refine ac (al ?_) | skip
  refine ac (wpAny_sequenceKey (pg hg).typeIs (by decide) ?_)
  refine ac (wpAny_callSpecial?_slot (name:=Str.ofString "__setitem__") (pg hg).typeIs slot_list_setitem
   (eP slot_list_setitem (pg hg).typeIs entry_list_setitem ?_ (args_list_setitem _ _ _)))
  refine ac (m:=Builtin.List.listSubscript? (.int k u)) (wpAny_listSubscript_int (fitsIndex_of hk2.1 (by lia)) ?_)
  clear hfit
  obtain ⟨j,rfl⟩:=jl hk2.1
  have hj:j < vs.toArray.size:=by rw [cP,← hl];exact hk2.2
  refine ac (m:=seqItemAt a j >>= fun r=>pure (r.map (j,·))) (ac (wpAny_seqItemAt hg rfl (al ?_)))
  rw [show vs.toArray[j]? = some vs.toArray[j] from Array.getElem?_eq_getElem hj]
  have fin:ge W F [a] s (.list (xs.set j v)) (.ref a) { s with heap:=s.heap.update a (Obj.mapSeq (·.setIfInBounds j vv)) }:=jr hF' hg (List.setIfInBounds_toArray ..) (bR.set z r j) (by rw [List.length_set];exact l)
  refine ac (m:=setSeqItemAt a j vv) (wpAny_setSeqItemAt hg rfl ?_)
  first
   | exact ac (al (al ⟨.none,rfl,al fin⟩))
   | exact al ⟨.none,rfl,al fin⟩
 | dict kvs=>
  refine kk (dy e fun k hk e=>eU e fun kvs' hd e=>qh hd fun h1 h2 z2=>?_)
  rw [e,z2]
  obtain ⟨es,a,ep,hg,l,hn,r⟩:=x.d
  have k2:VR W F s.heap (cb k) vi:=gJ hk▸y
  have hF':¬ F a:=hF a (.head _)
  unfold setItem
  try with_reducible refine b4 ?_
  first | refine ac (al ?_) | skip
  refine ac (wpAny_sequenceKey (aA hg) (by decide) ?_)
  refine ac (wpAny_callSpecial?_slot (name:=Str.ofString "__setitem__") (aA hg) slot_dict_setitem
   (eP slot_dict_setitem (aA hg) entry_dict_setitem ?_ (args_dict_setitem _ _ _)))
  refine ac (m:=Builtin.Dict.notOrdered "__setitem__" ⟨[.ref a,vi,vv],[]⟩) (wpAny_notOrdered_dict (aA hg) ?_)
  refine ac (m:=dictSet a vi vv) (p6 (eG (Nat.add_le_add_left (by decide:1≤20) _) hu) hF' hg r hn.1 h1 h2 k2 z fun es' ep' h' tk hg' hs' r'=>al ⟨.none,rfl,al ?_⟩)
  exact xK hF' hs' hg' r' (aI hJ h2) ⟨ki hn.1,hn.2⟩
 | _=>exact nn e
inductive NT (W:Wd) (as:List Addr) (vo:Value) (f:T→T→Option T) (Q:Value→Shared→Prop) (vv:Value) (s₁:Shared):Prop where
 | mk (F:Addr→Prop) (o v t:T) (hF:∀ a∈as,¬ F a) (x:gu W F s₁.heap as o vo) (y:VR W F s₁.heap v vv) (e:f o v=some t) (q:∀ s',ge W F as s₁ t vo s'→Q .none s')
theorem Cn {x:Sem Value} {pos:Pos} {Q:Value→Shared→Prop} (h:wpAny (model W.prog W.w) A x (NT W as vo IW Q) E s) (hl:∃ a,vo=.ref a) :
  wpAny (model W.prog W.w) A (callWith pos (.builtin "list.append") [vo] [(false,x)] []) Q E s:=by
 obtain ⟨l,rfl⟩:=hl
 refine P.append_list (ax h (fun vv s₁ h'1=>?_) am)
 obtain ⟨F,o,v,t,hF,x,y,e,q⟩:=h'1
 refine dy e fun xs hx e=>ifs e fun hlt e=>?_
 rw [e] at q
 have x:=(et hx▸x).l
 generalize hw:Value.ref l=w at x
 obtain ⟨vs,a,n,hg,ll,r⟩:=x
 obtain rfl:=Value.ref.inj hw
 exact ⟨_,_,by rw [cP,← r.length];exact aI (Nat.le_of_lt hlt) gz,hg,q _ (jr (hF l (.head _)) hg (List.push_toArray ..) (r.append (.cons y .nil)) (by rw [bS];exact hlt))⟩
theorem Bs {x:Sem Value} {pos:Pos} {Q:Value→Shared→Prop} (h:wpAny (model W.prog W.w) A x (NT W as vo AX Q) E s) (hl:∃ a,vo=.ref a) :
  wpAny (model W.prog W.w) A (callWith pos (.builtin "list.extend") [vo] [(false,x)] []) Q E s:=by
 obtain ⟨l,rfl⟩:=hl
 refine P.extend_list (ax h (fun vv s₁ h'1=>?_) am)
 obtain ⟨F,o,v,t,hF,x,y,e,q⟩:=h'1
 refine dy e fun xs hx e=>dy e fun ys hy e=>ifs e fun hlt e=>?_
 rw [e] at q
 have x:=(et hx▸x).l
 generalize hw:Value.ref l=w at x
 obtain ⟨vs,a,n,hg,ll,r⟩:=x
 obtain rfl:=Value.ref.inj hw
 obtain ⟨us,b,n2,rfl,fb,g2,l2,r2⟩:=(et hy▸y).list_inv
 have hlt':vs.length+us.length≤SZ:=by rw [← r.length,← r2.length];exact hlt
 have S:=aI hlt' gz
 refine ⟨b,vs.toArray,us.toArray,n,n2,aI (Nat.le_add_right _ _) S,Nat.le_succ_of_le S,?_,rfl,hg,g2,q _ (jr (hF l (.head _)) hg (List.append_toArray ..) (r.append r2) (by rw [bS];exact hlt))⟩
 have:Builtin.List.listTooLong (vs.toArray.size+us.toArray.size)=false:=by
  unfold Builtin.List.listTooLong;exact eK (Nat.not_lt.mpr S)
 rw [this,Bool.and_false];exact bO
end
end
section
noncomputable abbrev zt (l u st:Value):Obj:={ cls:=.type "slice",data:=.fields #[l,u,st] }
section
variable {W:Wd} {F:Addr→Prop} {s:Shared} {A:Around} {E:Value→Shared→Prop}
theorem pB {sl:Addr} {vl vu:Value} {lo hi:Option Int} {Q:Int×Int×Nat→Shared→Prop} (hs:s.heap.IsSliceOf sl vl vu .none) (pl:IsPart vl lo) (pu:IsPart vu hi)
  (h:Q ((Builtin.Slice.sliceAdjust lo hi 1 n).1,1,Builtin.Slice.slicePlaces (Builtin.Slice.sliceAdjust lo hi 1 n).1 (Builtin.Slice.sliceAdjust lo hi 1 n).2 1) s) :
  wpAny (model W.prog W.w) A (Builtin.Slice.sliceApplied (.ref sl) (pure (n:Int))) Q E s:=by
 obtain ⟨os,hos,hcs,hds⟩:=id hs
 have part:∀ {v k} {Q:Option Int→Shared→Prop},IsPart v k→Q k s→wpAny (model W.prog W.w) A (Builtin.Slice.slicePartIndex v) Q E s:=fun p q=>by
  induction p with
  | none=>exact slicePart_none q
  | int i t=>exact slicePart_int q
 unfold Builtin.Slice.sliceApplied Builtin.Slice.sliceFields
 refine ac (ac (wpAny_field hos hds (x:=vl) rfl (ac (wpAny_field hos hds (x:=vu) rfl (ac (wpAny_field hos hds (x:=.none) rfl (al ?_)))))))
 refine ac (slicePart_none ?_)
 show wpAny _ _ (if ((1:Int)==0)=true then _ else _) _ _ s
 rw [av (by decide)]
 refine ac (part pl (ac (part pu (ac (al ?_)))))
 exact al h
theorem DV (xs:Array Value) (a n:Nat):((List.range n).filterMap fun (k:Nat)=>xs[((a:Int)+(k:Int)*1).toNat]?).toArray=((xs.toList.drop a).take n).toArray:=by
 have e:(fun (k:Nat)=>xs[((a:Int)+(k:Int)*1).toNat]?)=fun k=>xs[a+k]?:=by
  funext k
  have:((a:Int)+(k:Int)*1).toNat=a+k:=by lia
  rw [this]
 rw [e]
 have:=pick_run xs a n
 rw [List.filterMap_map] at this
 have e2:((fun x=>xs[x]?) ∘ fun x=>a+x)=fun k=>xs[a+k]?:=rfl
 rw [e2] at this
 rw [this]
theorem tN {sl:Addr} {ys:List T} {t:Value} {vl vu:Value} {lo hi:Option Int} {a k:Nat} (x:VR W F s.heap (.tup xs) t) (hs:s.heap.IsSliceOf sl vl vu .none) (pl:IsPart vl lo) (pu:IsPart vu hi)
  (h1:(Builtin.Slice.sliceAdjust lo hi 1 xs.length).1=a) (h2:Builtin.Slice.slicePlaces (Builtin.Slice.sliceAdjust lo hi 1 xs.length).1 (Builtin.Slice.sliceAdjust lo hi 1 xs.length).2 1=k) (hy:ys=(xs.drop a).take k) :
  wpAny (model W.prog W.w) A (PySem.getItem t (.ref sl)) (fy W F s (.tup ys)) E s:=by
 obtain ⟨vs,ta,n,rfl,fa,g,l,r⟩:=id x.tup_inv
 have hl:=r.length
 obtain ⟨os,hos,hcs,hds⟩:=id hs
 have hTs:s.TypeIs (.ref sl) "slice":=⟨os,hos,hcs⟩
 have ht:IsTup s.heap ta vs.toArray:=CL g
 unfold PySem.getItem
 try with_reducible refine b4 ?_
 first | refine ac (al ?_) | skip
 refine ac (wpAny_sequenceKey ht.typeIs (by decide) ?_)
 refine ac (wpAny_callSpecial?_slot (name:=Str.ofString "__getitem__") ht.typeIs slot_tuple_getitem
  (eP slot_tuple_getitem ht.typeIs entry_tuple_getitem ?_ (args_tuple_getitem _ _)))
 show wpAny _ _ (Builtin.Tuple.tupleItemsOf (.ref ta) >>= _) _ _ s
 refine ac (tupleItemsOf_ ht ?_)
 refine ac (wpAny_typeOf hTs ?_)
 rw [au (by decide),cP,← hl]
 refine ac (pB hs pl pu ?_)
 rw [h2,h1]
 dsimp only
 by_cases hw:((a:Int)==0&&(1:Int)==1&&k==xs.length)=true
 ·rw [au hw]
  simp only [bC,bp] at hw
  have ha:a=0:=Int.ofNat.inj hw.1.1
  have hk:k=xs.length:=hw.2
  subst ha;subst hk
  rw [List.drop_zero,List.take_length] at hy
  subst hy
  refine ac ?_
  unfold Builtin.Tuple.tupleIsExact
  refine ac (wpAny_typeOf ht.typeIs (al ?_))
  rw [au (by decide)]
  refine ac (wpAny_rule ?_)
  exact al ⟨_,rfl,al (fy.of_same x)⟩
 ·rw [av hw,DV]
  have hz:sizeOk (.seq ((vs.toArray.toList.drop a).take k).toArray):=by
   show ((vs.toArray.toList.drop a).take k).toArray.size≤sizeLine
   rw [cP,List.length_take,List.length_drop]
   exact aI (aI (Nat.min_le_right _ _) (Nat.sub_le _ _)) (hl▸aI l gz)
  have fin:fy W F s (.tup ys) (.ref s.heap.objs.size) { s with heap:=s.heap.push (seqObj "tuple" ((vs.drop a).take k).toArray 0) }:=by
   subst hy
   exact fy.tup (tk:=s.toks) (n:=0) ((r.drop a).take k) (by rw [List.length_take,List.length_drop];exact aI (aI (Nat.min_le_right _ _) (Nat.sub_le _ _)) l)
  first
   | exact ac (m:=Builtin.Tuple.tupleExact _) (gT (al ⟨_,rfl,al fin⟩) hz)
   | exact ac (m:=Builtin.Tuple.tupleExact _) (gT (ac (al (al ⟨_,rfl,al fin⟩))) hz)
   | exact ac (ac (m:=Builtin.Tuple.tupleExact _) (gT (al (al ⟨_,rfl,al fin⟩)) hz))
   | exact ac (ac (m:=Builtin.Tuple.tupleExact _) (gT (al ⟨_,rfl,al fin⟩) hz))
theorem o8 (h n:Nat):Builtin.Slice.sliceAdjust none (some (h:Int)) 1 (n:Int)=(0,((min h n:Nat):Int)):=by
 unfold Builtin.Slice.sliceAdjust
 have h1:¬ ((1:Int) < 0):=by lia
 have h2:¬ ((h:Int) < 0):=by lia
 simp only [h1,h2,if_false]
 congr 1
 lia
theorem qt (l n:Nat):Builtin.Slice.sliceAdjust (some (l:Int)) (some (-1)) 1 (n:Int)=(((min l n:Nat):Int),((n - 1:Nat):Int)):=by
 unfold Builtin.Slice.sliceAdjust
 have h1:¬ ((1:Int) < 0):=by lia
 have h2:¬ ((l:Int) < 0):=by lia
 have h3:(-1:Int) < 0:=by lia
 simp only [h1,h2,h3,if_false,if_true]
 congr 1<;>lia
theorem qM (a b:Nat):Builtin.Slice.slicePlaces (a:Int) (b:Int) 1=b - a:=by
 unfold Builtin.Slice.slicePlaces
 have h1:(1:Int) > 0:=by lia
 simp only [h1,if_true,Int.ediv_one]
 split<;>lia
theorem L8 {o t:T} {h:Int} {u:Tok} {sl:Addr} (x:VR W F s.heap o vo) (hs:s.heap.IsSliceOf sl .none (.int h u) .none) (e:cutT o none (some h)=some t) :
  wpAny (model W.prog W.w) A (PySem.getItem vo (.ref sl)) (fy W F s t) E s:=by
 refine cps fun G kk=>?_
 cases o with
 | tup xs=>
  refine kk (eU e fun ys hy z=>ifs hy fun h0 hy2=>?_)
  obtain ⟨k,rfl⟩:=jl h0
  rw [z,hy2]
  refine tN (a:=0) (k:=min k xs.length) x hs .none (.int _ _) ?_ ?_ ?_
  ·rw [o8];rfl
  ·rw [o8];exact qM 0 _
  ·rw [List.drop_zero,Int.toNat_natCast,← List.take_eq_take_min]
 | list xs=>
  refine kk (eU e fun ys hy z=>ifs hy fun h0 hy2=>?_)
  obtain ⟨k,rfl⟩:=jl h0
  rw [z,hy2]
  obtain ⟨vs,a,n,rfl,fa,g,l,r⟩:=x.list_inv
  refine wpAny_getItem_list_slice (pg g) hs .none (.int _ _) .none (by simp) ?_ (by rw [cP,← r.length];exact aI l gz)
  rw [slicePick_upto' _ k,Int.toNat_natCast]
  exact (mi.list (tk:=s.toks) (n:=0) (r.take k) (by rw [List.length_take];exact aI (Nat.min_le_right ..) l)).res
 | _=>exact nn e
theorem GL {o t:T} {l h:Int} {u u':Tok} {sl:Addr} (x:VR W F s.heap o vo) (hs:s.heap.IsSliceOf sl (.int l u') (.int h u) .none) (e:cutT o (some l) (some h)=some t) :
  wpAny (model W.prog W.w) A (PySem.getItem vo (.ref sl)) (fy W F s t) E s:=by
 refine cps fun G kk=>?_
 cases o with
 | tup xs=>
  refine kk (eU e fun ys hy z=>ifs hy fun h0 hy2=>?_)
  obtain ⟨h0,rfl⟩:=h0
  obtain ⟨k,rfl⟩:=jl h0
  rw [z,hy2]
  refine tN (a:=min k xs.length) (k:=xs.length - 1 - min k xs.length) x hs (.int _ _) (.int _ _) ?_ ?_ ?_
  ·rw [qt]
  ·rw [qt];exact qM _ _
  ·rw [Int.toNat_natCast,List.drop_take]
   rcases Nat.le_total k xs.length with q | q
   ·rw [Nat.min_eq_left q]
   ·rw [Nat.min_eq_right q,List.drop_of_length_le q,List.drop_length,List.take_nil,List.take_nil]
 | _=>exact nn e
theorem EA {P:Prop} {a:T} (x:dZ W F s.heap a v) (e:JS a=some xs) (k:a=.tup xs→dZ W F s.heap (.tup xs) v→P) (l:dZ W F s.heap (.list xs) v→P):P:=by
 cases a with
 | tup ys=>obtain rfl:=az e;exact k rfl x
 | list ys=>obtain rfl:=az e;exact l x
 | _=>exact nn e
theorem EM {a t:T} (x:dZ W F s.heap a v) (e:bi .tuple a=some t):wpAny (model W.prog W.w) A (call (.type "tuple") [v]) (fy W F s t) E s:=by
 refine eU e fun xs h z=>z▸EA x h (fun _ x=>?_) fun x=>?_
 ·obtain ⟨vs,a,n,rfl,g,l,r⟩:=x.tup_inv
  exact call_tuple_tup (CL g) (fy.of_same x.tup_vr)
 ·obtain ⟨vs,a,n,rfl,g,l,r⟩:=x.list_inv
  refine call_tuple_list (pg g) (fun h' hk=>?_) (by rw [cP,← r.length];exact aI l gz)
  have G:cf F s F { s with heap:=h' }:=⟨rfl,rfl,hk,fun _ f=>f,fun _=>.inl⟩
  obtain ⟨F',g',r'⟩:=fy.tup (W:=W) (F:=F) (s:={ s with heap:=h' }) (tk:=s.toks) (n:=0) (r.grow G) l
  exact ⟨F',G.trans g',r'⟩
theorem Iq {a t:T} (x:dZ W F s.heap a v) (e:bi .list a=some t):wpAny (model W.prog W.w) A (call (.type "list") [v]) (fy W F s t) E s:=by
 have fin:∀ {xs:List T} {vs:List Value},bR W F s.heap xs vs→xs.length≤SZ→∀ h' c',(∀ b o',s.heap.get? b=some o'→h'.get? b=some o')→h'.get? s.heap.objs.size=some { cls:=.type "list",dict:=none,data:=.seq vs.toArray c',slots:=#[] }→
   fy W F s (.list xs) (.ref s.heap.objs.size) { s with heap:=h' }:=fun r l h' c' hk hg=>by
  have G:cf F s F { s with heap:=h' }:=⟨rfl,rfl,hk,fun _ f=>f,fun _=>.inl⟩
  exact (show mi W F s _ _ _ from ⟨[s.heap.objs.size],G,.list rfl hg l (r.grow G),cO.mpr ⟨(fun h=>nomatch h),cJ⟩,fun a h=>by rw [aV.mp h];exact aS _⟩).res
 refine eU e fun xs h z=>z▸EA x h (fun _ x=>?_) fun x=>?_
 ·obtain ⟨vs,a,n,rfl,g,l,r⟩:=x.tup_inv
  exact call_list_seq a (.inr rfl) g rfl rfl (fin r l) (by rw [cP,← r.length];exact aI l gz)
 ·obtain ⟨vs,a,n,rfl,g,l,r⟩:=x.list_inv
  exact call_list_seq a (.inl rfl) g rfl rfl (fin r l) (by rw [cP,← r.length];exact aI l gz)
theorem J7 {a t:T} (x:dZ W F s.heap a v) (e:bi .abs a=some t):wpAny (model W.prog W.w) A (call (.builtin "abs") [v]) (fy W F s t) E s:=by
 refine eU e fun i h z=>?_
 obtain ⟨u,rfl⟩:=(cB h▸x).int_inv
 rw [z]
 refine call_abs_int fun u tk=>?_
 rw [show (if i < 0 then -i else i)=(i.natAbs:Int) by split<;>lia]
 exact .of_toks (.int _ _)
theorem M4 {a t:T} (x:dZ W F s.heap a v) (e:bi .int a=some t):wpAny (model W.prog W.w) A (call (.type "int") [v]) (fy W F s t) E s:=by
 refine eU e fun i h z=>?_
 obtain ⟨u,rfl⟩:=(cB h▸x).int_inv
 rw [z]
 exact call_int_int (.of_same (.int _ _))
theorem Dm {a t:T} (x:dZ W F s.heap a v) (e:bi .range a=some t):wpAny (model W.prog W.w) A (call (.type "range") [v]) (fy W F s t) E s:=by
 refine dy e fun i h e=>ifs e fun hi z=>?_
 obtain ⟨u,rfl⟩:=(cB h▸x).int_inv
 rw [z]
 refine call_range_1 ?_
 have hg:(s.heap.push { cls:=.type "range",data:=.fields #[.int 0 s.toks,.int i u,.int 1 (s.toks+1)] }).get? s.heap.objs.size=some { cls:=.type "range",data:=.fields #[.int 0 s.toks,.int i u,.int 1 (s.toks+1)] }:=dH _ rfl
 refine ⟨fun a=>F a∨a∈[s.heap.objs.size],(cf.push F _ _).add (fun a h=>by rw [aV.mp h];exact aS _) (fun a h=>by rw [aV.mp h];exact ⟨_,hg⟩),?_⟩
 exact .rng (.inr (.head _)) hg rfl (Int.toNat_of_nonneg hi.1).symm rfl (Int.toNat_le.mpr hi.2)
end
end
section
inductive Hd where
 | list (l:Addr) | tup (t:Addr) | keys (d:Addr) (n ep:Nat) | vals (v d:Addr) (n ep:Nat) | rng (n:Nat)
noncomputable def g4 (h:Heap) (I:Addr) (i:Nat):Hd→Prop
 | .list l=>h.IsListIter I l i
 | .tup t=>h.IsTupleIter I t i
 | .keys d n ep=>h.IsKeyIter I d i n ep
 | .vals _ d n ep=>h.IsValIter I d i n ep
 | .rng n=>IsRangeIter h I (i:Int) ((n:Int) - i) 1
noncomputable def rn (W:Wd) (F:Addr→Prop) (h:Heap) (xs:List T):Hd→Prop
 | .list l=>∃ vs n,h.get? l=some (seqObj "list" vs.toArray n)∧bR W F h xs vs
 | .tup t=>∃ vs n,h.get? t=some (seqObj "tuple" vs.toArray n)∧bR W F h xs vs
 | .keys d n ep=>∃ kvs es,h.get? d=some (aL es ep)∧es.length=n∧cL W F h kvs es∧xs=kvs.map fun p=>cb p.1
 | .vals _ d n ep=>∃ kvs es,h.get? d=some (aL es ep)∧es.length=n∧cL W F h kvs es∧xs=kvs.map (·.2)
 | .rng n=>xs=(List.range n).map fun i=>.int (Int.ofNat i)
noncomputable def Hd.at:Hd→List Addr
 | .list l=>[l] | .tup t=>[t] | .keys d _ _=>[d] | .vals _ d _ _=>[d] | .rng _=>[]
section
variable {W:Wd} {F F':Addr→Prop} {h h':Heap} {I:Addr} {i:Nat} {hd:Hd} {xs:List T}
theorem g4.keep (x:g4 h I i hd) (k:∀ o,h.get? I=some o→h'.get? I=some o):g4 h' I i hd:=by
 induction hd with
 | rng n=>exact k _ x
 | _=>obtain ⟨o,ho,r⟩:=x;exact ⟨o,k _ ho,r⟩
theorem g4.live (x:g4 h I i hd):∃ o,h.get? I=some o:=by
 induction hd with
 | rng n=>exact ⟨_,x⟩
 | _=>obtain ⟨o,ho,r⟩:=x;exact ⟨o,ho⟩
theorem rn.keep (x:rn W F h xs hd) (hF:∀ a,F a→F' a) (k:∀ a o,F a∨a∈hd.at→h.get? a=some o→h'.get? a=some o):rn W F' h' xs hd:=by
 have kF:=fun a o f=>k a o (.inl f)
 induction hd with
 | list l=>obtain ⟨vs,n,g,r⟩:=x;exact ⟨vs,n,k _ _ (.inr (by simp [Hd.at])) g,r.mono hF kF⟩
 | tup l=>obtain ⟨vs,n,g,r⟩:=x;exact ⟨vs,n,k _ _ (.inr (by simp [Hd.at])) g,r.mono hF kF⟩
 | keys d n ep=>obtain ⟨kvs,es,g,l,r,e⟩:=x;exact ⟨kvs,es,k _ _ (.inr (by simp [Hd.at])) g,l,r.mono hF kF,e⟩
 | vals v d n ep=>obtain ⟨kvs,es,g,l,r,e⟩:=x;exact ⟨kvs,es,k _ _ (.inr (by simp [Hd.at])) g,l,r.mono hF kF,e⟩
 | rng n=>exact x
end
section
variable {prog:Program} {w:World} {A:Around} {E:Value→Shared→Prop} {s:Shared} {es:List DictEntry} {d it:Addr} {i ep:Nat}
theorem kz [BEq α] [LawfulBEq α] (n:α):¬ (n != n)=true:=by rw [bne_self_eq_false];exact bO
theorem FU:(if ((i:Int) < 0) then none else es.toArray[(i:Int).toNat]?)=es[i]?:=by rw [av (Int.not_lt.mpr (hE i)),Int.toNat_natCast,List.getElem?_toArray]
theorem zO {P':α→Shared→Prop} {E':Value→Shared→Prop} (hh:A.handled=none) (h:∀ h' e,(∀ b o,s.heap.get? b=some o→h'.get? b=some o)→Shared.TypeIs { s with heap:=h' } (.ref e) "StopIteration"→E' (.ref e) { s with heap:=h' }) :
  wpAny (model prog w) A (newExc (.type "StopIteration") [] >>= fun e=>raiseNew (α:=α) e) P' E' s:=by
 refine ac ?_
 unfold newExc newTuple
 refine ac (gT ?_ (by size_fits))
 refine ac (m:=firstArgMember _ _) (wpAny_of_eq (a:=Value.none) (by first | rfl | (simp only [firstArgMember];rfl)) ?_)
 refine gT ?_ (by size_fits)
 unfold raiseNew
 refine ac (wpAny_handled ?_)
 rw [hh]
 refine ac (al (wpAny_throw (h _ _ (fun b o e=>bU _ (bU _ e)) ?_)))
 exact ⟨_,dH _ rfl,rfl⟩
theorem nv {R:α→Shared→Prop} {Q:Option Value→Shared→Prop} (hh:A.handled=none) (hq:∀ h',(∀ b o,s.heap.get? b=some o→h'.get? b=some o)→Q none { s with heap:=h' }) :
  wpAny (model prog w) A.in1 (newExc (.type "StopIteration") [] >>= fun e=>(raiseNew e:Sem α)) R (fun e s'=>wpAny (model prog w) A (isInstance e (.type "StopIteration") >>= fun b=>if b=true then pure none else throw e) Q E s') s:=
 zO (show A.in1.handled=none from hh) fun h' e k hT=>ac (wpAny_isInstance (T:="StopIteration") (b:=true) hT isSubtype_stop (al (hq h' k)))
theorem uq {Q:Option Value→Shared→Prop} (hh:A.handled=none) (hit:s.heap.IsKeyIter it d i es.length ep) (hod:s.heap.get? d=some (aL es ep))
  (h1:∀ e,es[i]? = some e→∀ h',h'.IsKeyIter it d (i+1) es.length ep→Heap.SameBut it s.heap h'→Q (some e.key) { s with heap:=h' })
  (h2:es[i]? = none→∀ h',Heap.ExtBut it s.heap h'→Q none { s with heap:=h' }):wpAny (model prog w) A (pyNext (.ref it)) Q E s:=by
 obtain ⟨o,ho,hc,hd⟩:=id hit
 unfold pyNext
 refine ac (wpAny_attempt (wpAny_callSpecial?_slot (name:=Str.ofString "__next__") hit.typeIs PySem.F.slot_dict_keyiterator_next
  (eP PySem.F.slot_dict_keyiterator_next hit.typeIs PySem.F.entry_dict_keyiterator_next ?_ (PySem.F.args_dict_keyiterator_next_1 _))))
 refine ac (al (ac (ac ?_)))
 refine ac (wpAny_typeNameOfWhole_keyiter hit.typeIs (al ?_))
 refine ac (wpAny_fieldsOf ho hd ?_)
 show wpAny _ _ (if (Value.ref d==Value.none)=true then _ else _) _ _ s
 refine bD bO (ac (al (ac (fY hod rfl (bD (kz _) (ac (al (ac (wpAny_dictEpoch hod rfl (bD (kz _) ?_))))))))))
 refine al ?_
 show wpAny _ _ (match (if ((i:Int) < 0) then none else es.toArray[(i:Int).toNat]?) with | some e=>_ | none=>_) _ _ s
 rw [FU]
 induction hx:es[i]? with
 | none=>
  refine ac (ac (wpAny_typeNameOfWhole_keyiter hit.typeIs (al ?_)))
  show wpAny _ _ (setField (.ref it) 0 .none >>= _) _ _ s
  exact ac (wpAny_setField ho hd (Nat.zero_lt_succ _) (nv hh fun h' k=>h2 hx _ fun b o hb e=>k b o ((iu _ _ (Ne.symm hb)).trans e)))
 | some e=>
  refine ac (ac (wpAny_typeNameOfWhole_keyiter hit.typeIs (al ?_)))
  refine ac (wpAny_isOneOf_keyiter hit.typeIs ?_)
  show wpAny _ _ (setField (.ref it) 1 (rawInt ((i:Int)+1)) >>= _) _ _ s
  refine ac (wpAny_setField ho hd (Nat.succ_lt_succ (Nat.zero_lt_succ _)) ?_)
  have hit':(s.heap.update it (Obj.mapFields (·.setIfInBounds 1 (rawInt ((i:Int)+1))))).IsKeyIter it d (i+1) es.length ep:=
   ⟨_,li _ ho (Obj.isFreed_of_fields (Obj.data_mapFields hd _)),(Obj.cls_mapFields ..).trans hc,by rw [Obj.data_mapFields hd];rfl⟩
  refine ac (b4 ?_)
  refine ac (wpAny_isOneOf_keyiter (s:={ s with heap:=s.heap.update it (Obj.mapFields (·.setIfInBounds 1 (rawInt ((i:Int)+1)))) }) hit'.typeIs ?_)
  show wpAny _ _ (pure e.key) _ _ _
  exact al (al ⟨_,rfl,al (h1 e hx _ hit' (f6 ..))⟩)
theorem Bb {Q:Option Value→Shared→Prop} (hh:A.handled=none) (hit:s.heap.IsValIter it d i es.length ep) (hod:s.heap.get? d=some (aL es ep))
  (h1:∀ e,es[i]? = some e→∀ h',h'.IsValIter it d (i+1) es.length ep→Heap.SameBut it s.heap h'→Q (some e.val) { s with heap:=h' })
  (h2:es[i]? = none→∀ h',Heap.ExtBut it s.heap h'→Q none { s with heap:=h' }):wpAny (model prog w) A (pyNext (.ref it)) Q E s:=by
 obtain ⟨o,ho,hc,hd⟩:=id hit
 unfold pyNext
 refine ac (wpAny_attempt (wpAny_callSpecial?_slot (name:=Str.ofString "__next__") hit.typeIs PySem.F.slot_dict_valueiterator_next
  (eP PySem.F.slot_dict_valueiterator_next hit.typeIs PySem.F.entry_dict_valueiterator_next ?_ (PySem.F.args_dict_valueiterator_next_1 _))))
 refine ac (al (ac (ac ?_)))
 refine ac (wpAny_typeNameOfWhole_valiter hit.typeIs (al ?_))
 refine ac (wpAny_fieldsOf ho hd ?_)
 show wpAny _ _ (if (Value.ref d==Value.none)=true then _ else _) _ _ s
 refine bD bO (ac (al (ac (fY hod rfl (bD (kz _) (ac (al (ac (wpAny_dictEpoch hod rfl (bD (kz _) ?_))))))))))
 refine al ?_
 show wpAny _ _ (match (if ((i:Int) < 0) then none else es.toArray[(i:Int).toNat]?) with | some e=>_ | none=>_) _ _ s
 rw [FU]
 induction hx:es[i]? with
 | none=>
  refine ac (ac (wpAny_typeNameOfWhole_valiter hit.typeIs (al ?_)))
  show wpAny _ _ (setField (.ref it) 0 .none >>= _) _ _ s
  exact ac (wpAny_setField ho hd (Nat.zero_lt_succ _) (nv hh fun h' k=>h2 hx _ fun b o hb e=>k b o ((iu _ _ (Ne.symm hb)).trans e)))
 | some e=>
  refine ac (ac (wpAny_typeNameOfWhole_valiter hit.typeIs (al ?_)))
  refine ac (wpAny_isOneOf_valiter hit.typeIs ?_)
  show wpAny _ _ (setField (.ref it) 1 (rawInt ((i:Int)+1)) >>= _) _ _ s
  refine ac (wpAny_setField ho hd (Nat.succ_lt_succ (Nat.zero_lt_succ _)) ?_)
  have hit':(s.heap.update it (Obj.mapFields (·.setIfInBounds 1 (rawInt ((i:Int)+1))))).IsValIter it d (i+1) es.length ep:=
   ⟨_,li _ ho (Obj.isFreed_of_fields (Obj.data_mapFields hd _)),(Obj.cls_mapFields ..).trans hc,by rw [Obj.data_mapFields hd];rfl⟩
  refine ac (b4 ?_)
  refine ac (wpAny_isOneOf_valiter (s:={ s with heap:=s.heap.update it (Obj.mapFields (·.setIfInBounds 1 (rawInt ((i:Int)+1)))) }) hit'.typeIs ?_)
  refine ac (wpAny_isOneOf_valiter (s:={ s with heap:=s.heap.update it (Obj.mapFields (·.setIfInBounds 1 (rawInt ((i:Int)+1)))) }) hit'.typeIs ?_)
  show wpAny _ _ (pure e.val) _ _ _
  exact al (al ⟨_,rfl,al (h1 e hx _ hit' (f6 ..))⟩)
end
theorem bR.at? {h:Heap} (r:bR W F h xs vs) (i:Nat):(∃ x v,xs[i]? = some x∧vs[i]? = some v∧VR W F h x v)∨(xs[i]? = none∧vs[i]? = none):=by
 induction hx:xs[i]? with
 | some x=>obtain ⟨v,hv,rv⟩:=r.get hx;exact .inl ⟨x,v,rfl,hv,rv⟩
 | none=>
  refine .inr ⟨rfl,?_⟩
  rw [List.getElem?_eq_none_iff] at hx ⊢
  rw [← r.length];exact hx
theorem cL.none_at {h:Heap} (r:cL W F h kvs es) (he:es[i]? = none):kvs[i]? = none:=by
 rw [List.getElem?_eq_none_iff] at he ⊢
 rw [r.length];exact he
theorem cL.some_at {h:Heap} (r:cL W F h kvs es) {e:DictEntry} (he:es[i]? = some e) :
  ∃ k t,kvs[i]? = some (k,t)∧VR W F h (cb k) e.key∧VR W F h t e.val:=by
 induction hx:kvs[i]? with
 | some x=>
  obtain ⟨e',h1,h2,_,h4⟩:=r.at (k:=x.1) (t:=x.2) hx
  rw [az (he.symm.trans h1)]
  exact ⟨x.1,x.2,rfl,h2,h4⟩
 | none=>
  rw [List.getElem?_eq_none_iff,r.length,← List.getElem?_eq_none_iff,he] at hx
  exact nn hx.symm
structure k8 (W:Wd) (F:Addr→Prop) (I:Addr) (i:Nat) (hd:Hd) (xs:List T) (s:Shared) (r:Option Value) (s':Shared):Prop where
 keep:∀ b o,b≠I→s.heap.get? b=some o→s'.heap.get? b=some o
 gens:s'.gens=s.gens
 os:s'.os=s.os
 res:match xs[i]? with | some x=>∃ v,r=some v∧VR W F s'.heap x v∧g4 s'.heap I (i+1) hd | none=>r=none
inductive Jp (W:Wd) (F:Addr→Prop) (I:Addr) (i:Nat) (hd:Hd) (x:T) (s':Shared):Option Value→Prop where
 | mk (v:Value) (a:VR W F s'.heap x v) (b:g4 s'.heap I (i+1) hd):Jp W F I i hd x s' (some v)
section
variable {W:Wd} {F:Addr→Prop} {s:Shared} {A:Around} {E:Value→Shared→Prop} {I:Addr} {i:Nat} {hd:Hd} {xs:List T}
theorem k8.fin {r:Option Value} (z:k8 W F I i hd xs s r s') (h:xs[i]? = none):r=none:=by
 have:=z.res
 rw [h] at this;exact this
theorem k8.item {r:Option Value} (z:k8 W F I i hd xs s r s') {x:T} (h:xs[i]? = some x):Jp W F I i hd x s' r:=by
 have:=z.res
 rw [h] at this
 obtain ⟨v,rfl,a,b⟩:=this
 exact ⟨v,a,b⟩
theorem k8.mkS {x:T} (hx:xs[i]? = some x) (k:∀ b o,b≠I→s.heap.get? b=some o→h'.get? b=some o) (a:VR W F h' x v) (b:g4 h' I (i+1) hd):k8 W F I i hd xs s (some v) { s with heap:=h' }:=
 ⟨k,rfl,rfl,by rw [hx];exact ⟨v,rfl,a,b⟩⟩
theorem k8.mkN (hx:xs[i]? = none) (k:∀ b o,b≠I→s.heap.get? b=some o→h'.get? b=some o):k8 W F I i hd xs s none { s with heap:=h' }:=⟨k,rfl,rfl,by rw [hx]⟩
theorem kB (hh:A.handled=none) (hF:¬ F I) (x:g4 s.heap I i hd) (y:rn W F s.heap xs hd) (hI:I∉hd.at):wpAny (model W.prog W.w) A (pyNext (.ref I)) (k8 W F I i hd xs s) E s:=by
 have kF:∀ {h':Heap},Heap.ExtBut I s.heap h'→∀ {t:T} {v:Value},VR W F s.heap t v→VR W F h' t v:=fun hs t v r=>r.mono (fun _ f=>f) fun a o f e=>hs a o (fun z=>hF (z▸f)) e
 refine cps fun G kk=>?_
 induction hd with
 | list l=>
  refine kk ?_
  obtain ⟨vs,n,g,r⟩:=y
  rcases r.at? i with ⟨x',v,h1,h2,h3⟩ | ⟨h1,h2⟩
  ·exact wpAny_pyNext_list_item x (pg g) (List.getElem?_toArray.trans h2) fun h' hit hs=>.mkS h1 hs.extBut (kF hs.extBut h3) hit
  ·exact wpAny_pyNext_list_end hh x (pg g) (List.getElem?_toArray.trans h2) fun h' hs=>.mkN h1 hs
 | tup l=>
  refine kk ?_
  obtain ⟨vs,n,g,r⟩:=y
  rcases r.at? i with ⟨x',v,h1,h2,h3⟩ | ⟨h1,h2⟩
  ·exact wpAny_pyNext_tuple_item x (KM g) (List.getElem?_toArray.trans h2) fun h' hit hs=>.mkS h1 hs.extBut (kF hs.extBut h3) hit
  ·exact wpAny_pyNext_tuple_end hh x (KM g) (List.getElem?_toArray.trans h2) fun h' hs=>.mkN h1 hs
 | keys d n ep=>
  refine kk ?_
  obtain ⟨kvs,es,g,rfl,r,rfl⟩:=y
  refine uq hh x g (fun e he h' hit hs=>?_) fun he h' hs=>?_
  ·obtain ⟨k,t,h1,h3,_⟩:=r.some_at he
   exact .mkS (by rw [dL,h1];rfl) hs.extBut (kF hs.extBut h3) hit
  ·exact .mkN (by rw [dL,r.none_at he];rfl) hs
 | vals v d n ep=>
  refine kk ?_
  obtain ⟨kvs,es,g,rfl,r,rfl⟩:=y
  refine Bb hh x g (fun e he h' hit hs=>?_) fun he h' hs=>?_
  ·obtain ⟨k,t,h1,_,h3⟩:=r.some_at he
   exact .mkS (by rw [dL,h1];rfl) hs.extBut (kF hs.extBut h3) hit
  ·exact .mkN (by rw [dL,r.none_at he];rfl) hs
 | rng n=>
  refine kk ?_
  subst y
  by_cases hlt:i < n
  ·refine wpAny_pyNext_range_item x (Int.sub_pos.mpr (Int.ofNat_lt.mpr hlt)) fun h' hit hs=>⟨hs.extBut,rfl,rfl,?_⟩
   rw [dL,List.getElem?_range hlt]
   refine ⟨_,rfl,.int _ _,?_⟩
   show IsRangeIter h' I (((i+1:Nat)):Int) ((n:Int) - ((i+1:Nat):Int)) 1
   rw [show (((i+1:Nat)):Int)=(i:Int)+1 from rfl,← Int.sub_sub]
   exact hit
  ·refine wpAny_pyNext_range_end hh x (Int.sub_nonpos_of_le (Int.ofNat_le.mpr (Nat.le_of_not_lt hlt))) fun h' hs=>⟨hs,rfl,rfl,?_⟩
   rw [dL,List.getElem?_eq_none (by rw [eh];exact Nat.le_of_not_lt hlt)];rfl
theorem z4 {Q:Value→Shared→Prop} (x:g4 s.heap I i hd) (q:Q (.ref I) s):wpAny (model W.prog W.w) A (pyIter (.ref I)) Q E s:=by
 induction hd with
 | list l=>exact wpAny_pyIter_listiter x q
 | tup l=>exact wpAny_pyIter_tupleiter x q
 | keys d n ep=>exact wpAny_pyIter_keyiter x q
 | vals v d n ep=>exact wpAny_pyIter_valiter x q
 | rng n=>exact wpAny_pyIter_rangeiter x q
theorem rQ {M:Model} {target:Expr} (x:g4 s.heap I i hd) (q:Q () s):wpAny M A (letOwnedTupleGo target (.ref I) v) Q E s:=by
 have key:∃ o n vs,s.heap.get? I=some o∧o.cls=.type n∧o.data=.fields vs∧["enumerate","zip","dict_itemiterator","dict_reverseitemiterator","odict_iterator","itertools.zip_longest","itertools.pairwise"].contains n=false:=by
  induction hd with
  | list l=>obtain ⟨o,ho,hc,hd⟩:=x;exact ⟨o,_,_,ho,hc,hd,by decide⟩
  | tup l=>obtain ⟨o,ho,hc,hd⟩:=x;exact ⟨o,_,_,ho,hc,hd,by decide⟩
  | keys d n ep=>obtain ⟨o,ho,hc,hd⟩:=x;exact ⟨o,_,_,ho,hc,hd,by decide⟩
  | vals v d n ep=>obtain ⟨o,ho,hc,hd⟩:=x;exact ⟨o,_,_,ho,hc,hd,by decide⟩
  | rng n=>exact ⟨_,_,_,x,rfl,rfl,by decide⟩
 obtain ⟨o,n,vs,ho,hc,hdt,hn⟩:=key
 refine cps fun G kk=>?_
 cases target with
 | Tuple _ _ _ | List _ _=>
  induction v with
  | ref a=>exact kk (ac (wpAny_load ho (by rw [hc,hdt];exact bD (fun h=>absurd (hn.symm.trans (cz.mp h).1) bO) (al q))))
  | _=>exact kk (al q)
 | _=>exact kk (al q)
theorem AT (h:n≤SZ):Builtin.Range.small 0 n 1=true:=by
 have hS:SZ=1048576:=rfl
 exact small_one (by decide) (by decide) (by lia) (by lia)
theorem DW (n:Nat):(if (0:Int) < n then (n:Int) - 0 else 0)=(n:Int) - ((0:Nat):Int):=
 iteInduction (motive:=(·=(n:Int) - ((0:Nat):Int))) (fun _=>rfl) fun h=>by lia
inductive Jg (W:Wd) (F:Addr→Prop) (s:Shared) (t:T) (v:Value) (xs:List T) (it:Value) (s':Shared):Prop where
 | mk (I:Addr) (hd:Hd) (h1:it=.ref I) (h2:cf F s F s') (h3:s.heap.get? I=none) (h4:g4 s'.heap I 0 hd) (h5:rn W F s'.heap xs hd) (h6:(∀ a∈hd.at,∃ o,s.heap.get? a=some o)) (h7:(VR W F s.heap t v→∀ a∈hd.at,F a)) (h8:(∀ ys,t=.list ys→∃ l,v=.ref l∧hd=.list l))
theorem uI {t:T} (x:dZ W F s.heap t v) (e:items t=some xs):wpAny (model W.prog W.w) A (pyIter v) (Jg W F s t v xs) E s:=by
 have none':∀ {a o},s.heap.get? a=some o→a≠s.heap.objs.size:=fun e z=>f7 _ (z▸ei e)
 refine cps fun GG kk=>?_
 cases t with
 | list ys=>
  refine kk ?_
  obtain rfl:=az e
  obtain ⟨vs,a,n,rfl,g,l,r⟩:=x.list_inv
  exact wpAny_pyIter_list (pg g) ⟨_,.list a,rfl,cf.push F _ _,aS _,⟨_,dH _ rfl,rfl,rfl⟩,⟨vs,n,bU _ g,r.grow (cf.push F _ s.toks)⟩,
   fun b hb=>by rw [aV.mp hb];exact ⟨_,g⟩,fun z b hb=>by rw [aV.mp hb];exact z.refF,fun _ _=>⟨a,rfl,rfl⟩⟩
 | tup ys=>
  refine kk ?_
  obtain rfl:=az e
  obtain ⟨vs,a,n,rfl,g,l,r⟩:=x.tup_inv
  exact wpAny_pyIter_tuple (KM g) ⟨_,.tup a,rfl,cf.push F _ _,aS _,⟨_,dH _ rfl,rfl,rfl⟩,⟨vs,n,bU _ g,r.grow (cf.push F _ s.toks)⟩,
   fun b hb=>by rw [aV.mp hb];exact ⟨_,g⟩,fun z b hb=>by rw [aV.mp hb];exact z.refF,fun _ e=>nomatch e⟩
 | dict kvs=>
  refine kk ?_
  obtain rfl:=az e
  obtain ⟨es,d,ep,rfl,g,l,n,hs,r⟩:=x.dict_inv
  have hT:=aA g
  refine wpAny_pyIter_slot hT PySem.F.slot_dict_iter (eP PySem.F.slot_dict_iter hT PySem.F.entry_dict_iter ?_ (PySem.F.args_dict_iter_1 _))
  unfold Builtin.«dict.__iter__»
  refine ac ?_
  unfold Builtin.Dict.dictSlotNone
  refine ac (wpAny_notOrdered_dict hT ?_)
  show wpAny _ _ (pure (Value.ref d)) _ _ s
  refine al ?_
  show wpAny _ _ (Builtin.Dict.showsAll d >>= _) _ _ s
  unfold Builtin.Dict.showsAll
  rw [av (by rw [hs];exact bO)]
  refine ac (al (ac (fY g rfl (ac (wpAny_dictEpoch g rfl ?_)))))
  refine ac (gT (al ⟨_,rfl,"dict_keyiterator",_,⟨_,dH _ rfl,rfl⟩,PySem.F.slot_dict_keyiterator_next.lookup,?_⟩))
  exact ⟨_,.keys d es.length ep,rfl,cf.push F _ s.toks,aS _,⟨_,dH _ rfl,rfl,rfl⟩,⟨kvs,es,bU _ g,rfl,r.mono (fun _ f=>f) (fun a o _ e=>bU _ e),rfl⟩,
   fun b hb=>by rw [aV.mp hb];exact ⟨_,g⟩,fun z b hb=>by rw [aV.mp hb];exact z.refF,fun _ e=>nomatch e⟩
 | dvals kvs=>
  refine kk ?_
  obtain rfl:=az e
  obtain ⟨es,a,d,ep,rfl,ga,g,l,r⟩:=x.dvals_inv
  have hv:s.heap.IsValuesView a d:=⟨_,ga,rfl,rfl⟩
  refine wpAny_pyIter_slot hv.typeIs PySem.F.slot_dict_values_iter (eP PySem.F.slot_dict_values_iter hv.typeIs PySem.F.entry_dict_values_iter ?_ (PySem.F.args_dict_values_iter_1 _))
  unfold Builtin.«dict_values.__iter__»
  refine ac (al ?_)
  refine ac ?_
  unfold Builtin.Dict_items.dictOf
  refine ac (wpAny_field ga rfl (x:=.ref d) rfl (al ?_))
  refine ac ?_
  unfold Builtin.Dict_items.newIterator
  refine ac (fY g rfl (ac (wpAny_dictEpoch g rfl ?_)))
  show wpAny _ _ (newFields "dict_valueiterator" [.ref d,rawInt 0,rawInt es.toArray.size,rawInt ep]) _ _ s
  refine gT (al ⟨_,rfl,"dict_valueiterator",_,⟨_,dH _ rfl,rfl⟩,PySem.F.slot_dict_valueiterator_next.lookup,?_⟩)
  exact ⟨_,.vals a d es.length ep,rfl,cf.push F _ s.toks,aS _,⟨_,dH _ rfl,rfl,rfl⟩,⟨kvs,es,bU _ g,rfl,r.mono (fun _ f=>f) (fun a o _ e=>bU _ e),rfl⟩,
   fun b hb=>by rw [aV.mp hb];exact ⟨_,g⟩,fun z b hb=>by rw [aV.mp hb];exact z.dvF ga,fun _ e=>nomatch e⟩
 | rng n=>
  refine kk ?_
  obtain rfl:=az e
  obtain ⟨a,u,v',z,rfl,g,l⟩:=x.rng_inv
  refine wpAny_pyIter_range g (AT l) ?_
  have hg:IsRangeIter (s.heap.push { cls:=.type "range_iterator",data:=.fields #[rawInt 0,rawInt (Builtin.Range.rangeSize 0 n 1),rawInt 1] }) s.heap.objs.size ((0:Nat):Int) ((n:Int) - (0:Nat)) 1:=by
   rw [rangeSize_one,DW]
   exact dH _ rfl
  exact ⟨_,.rng n,rfl,cf.push F _ _,aS _,hg,rfl,(fun b hb=>nomatch hb),(fun _ b hb=>nomatch hb),(fun _ e=>nomatch e)⟩
 | _=>exact nn e
end
end
section
theorem mC {P:List Int→List Int→Prop} {a:Int} (h0:P [] [a]) (h1:∀ b r,a < b→P (b::r) (a::b::r)) (h2:∀ r,P (a::r) (a::r)) (h3:∀ b r,b < a→P r (io a r)→P (b::r) (b::io a r)) (l:List Int):P l (io a l):=by
 induction l with
 | nil=>exact h0
 | cons b r ih=>
  show P _ (if a < b then a::b::r else if a=b then b::r else b::io a r)
  refine iteInduction (fun e=>h1 b r e) fun e=>?_
  refine iteInduction (fun d=>d▸h2 r) fun d=>h3 b r (Int.lt_iff_le_and_ne.mpr ⟨Int.not_lt.mp e,Ne.symm d⟩) ih
theorem gG {a k:Int} {l:List Int}:k∈io a l↔k=a∨k∈l:=
 mC (P:=fun l m=>k∈m↔k=a∨k∈l) aU (fun _ _ _=>aU) (fun r=>⟨.inr,fun h=>h.elim (fun e=>e▸.head r) id⟩)
  (fun b r _ ih=>by rw [aU,aU,ih];exact or_left_comm) l
theorem g6 {a:Int} {l:List Int} (h:l.Pairwise (· < ·)):(io a l).Pairwise (· < ·):=
 mC (P:=fun l m=>l.Pairwise (· < ·)→(∀ x∈m,x=a∨x∈l)→m.Pairwise (· < ·)) (fun _ _=>List.pairwise_singleton _ _)
  (fun b r e h _=>List.pairwise_cons.mpr ⟨fun c hc=>(aU.mp hc).elim (fun d=>d▸e) fun d=>Int.lt_trans e (List.rel_of_pairwise_cons h d),h⟩) (fun _ h _=>h)
  (fun b r e ih h _=>List.pairwise_cons.mpr ⟨fun c hc=>(gG.mp hc).elim (fun d=>d▸e) fun d=>List.rel_of_pairwise_cons h d,ih h.of_cons fun x hx=>gG.mp hx⟩) l h fun x hx=>gG.mp hx
theorem aN {k:Int} {l:List Int}:k∈canon l↔k∈l:=by
 induction l with
 | nil=>exact Iff.rfl
 | cons a l ih=>exact gG.trans ((or_congr Iff.rfl ih).trans aU.symm)
theorem aJ (l:List Int):(canon l).Pairwise (· < ·):=by
 induction l with
 | nil=>exact .nil
 | cons a l ih=>exact g6 ih
theorem Jc {l:List Int} (h:l.Pairwise (· < ·)):l.Nodup:=h.imp fun h=>Int.ne_of_lt h
theorem bV {xs ys:List Int} (hx:xs.Pairwise (· < ·)) (hy:ys.Pairwise (· < ·)) (h:∀ k,k∈xs↔k∈ys):xs=ys:=
 ((List.perm_ext_iff_of_nodup (Jc hx) (Jc hy)).mpr h).eq_of_pairwise (fun _ _ _ _ p q=>absurd p (Int.lt_asymm q)) hx hy
theorem wG {a:Int} {l:List Int} (h:l.Pairwise (· < ·)) (m:a∈l):io a l=l:=
 bV (g6 h) h fun k=>gG.trans ⟨fun x=>x.elim (fun e=>e▸m) id,.inr⟩
theorem t4 {a:Int} {l:List Int} (h:a∉l):(io a l).Perm (a::l):=
 mC (P:=fun l m=>a∉l→m.Perm (a::l)) (fun _=>.refl _) (fun _ _ _ _=>.refl _) (fun r h=>absurd (.head r) h) (fun b r _ ih h=>((ih fun m=>h (.tail _ m)).cons b).trans (.swap ..)) l h
noncomputable def dF:List Int→List Int→List Int
 | [],l=>l
 | a::r,l=>dF r (io a l)
theorem iR {k:Int} {r l:List Int}:k∈dF r l↔k∈r∨k∈l:=by
 induction r generalizing l with
 | nil=>exact ⟨.inr,fun h=>h.resolve_left fun h=>nomatch h⟩
 | cons a r ih=>
  refine (ih (l:=io a l)).trans ((or_congr Iff.rfl gG).trans ?_)
  rw [aU,or_assoc];exact or_left_comm
theorem dC {r l:List Int} (h:l.Pairwise (· < ·)):(dF r l).Pairwise (· < ·):=by
 induction r generalizing l with
 | nil=>exact h
 | cons a r ih=>exact ih (g6 h)
theorem o9 {a:Int} {l:List Int}:(io a l).length≤l.length+1:=
 mC (P:=fun l m=>m.length≤l.length+1) (Nat.le_refl _) (fun _ _ _=>Nat.le_refl _) (fun _=>Nat.le_succ _) (fun _ _ _ ih=>gC ih) l
theorem kJ {r l:List Int}:(dF r l).length≤r.length+l.length:=by
 induction r generalizing l with
 | nil=>exact er (Nat.zero_add _).symm
 | cons a r ih=>exact aI (ih (l:=io a l)) (aI (Nat.add_le_add_left o9 _) (er (Nat.succ_add_eq_add_succ r.length l.length).symm))
section
variable {W:Wd} {A:Around} {E:Value→Shared→Prop} {s:Shared}
theorem cV.perm' {es:Array (Int×Value)} {t t':SetTable} {xs:List Int} (x:cV W es t xs) (p:es'.toList.Perm es.toList) (ht:jZ t' es'.size) (hl:t.led=true→t'.led=true):cV W es' t' xs:=
 ⟨fun e he=>x.els e (p.mem_iff.mp he),(p.map _).trans x.perm,ht,x.led.imp id hl,by
  have:=p.length_eq;rw [eZ,eZ] at this;rw [this];exact x.few⟩
theorem cV.push {es:Array (Int×Value)} {t t':SetTable} {xs:List Int} {k:Int} {u:Tok} (x:cV W es t xs) (hk:k∉xs) (p:es'.toList.Perm (es.toList++[(hashInt k,Value.int k u)])) (ht:jZ t' es'.size) (hl:t'.led=t.led) (hf:es.size+1 < 4000) :
  cV W es' t' (io k xs):=by
 refine ⟨fun e he=>?_,?_,ht,by rw [hl];exact x.led,?_⟩
 ·rcases cD.mp (p.mem_iff.mp he) with h | h
  ·exact x.els e h
  ·rw [aV] at h;exact ⟨k,u,h⟩
 ·refine (p.map _).trans ?_
  rw [dK]
  exact ((List.perm_append_singleton _ _).trans (x.perm.cons k)).trans (t4 hk).symm
 ·have:=p.length_eq
  rw [bS,eZ,eZ] at this
  rw [this];exact hf
theorem bw {es:Array (Int×Value)} {ep:Nat} {t:SetTable} {xs:List Int} {Q:(Array (Int×Value)×Nat×SetTable)→Shared→Prop} (ho:s.heap.get? a=some (cN es ep t)) (d:cV W es t xs) (h:Q (es,ep,t) s) :
  wpAny (model W.prog W.w) A (setState a) Q E s:=wpAny_setState_of ho rfl d.tab.fits h
theorem jx {es:Array (Int×Value)} {ep:Nat} {t:SetTable} {xs:List Int} {Q:Nat→Shared→Prop} (ho:s.heap.get? a=some (cN es ep t)) (d:cV W es t xs) (h:Q ep s) :
  wpAny (model W.prog W.w) A (setEpoch a) Q E s:=wpAny_setEpoch_of ho rfl d.tab.fits h
theorem dp {es:Array (Int×Value)} {ep:Nat} {t t':SetTable} (ho:s.heap.get? a=some (cN es ep t)) (hz:es'.size < 4100)
  (h:∀ h',h'.get? a=some (cN es' (ep+1) t')→Heap.SameBut a s.heap h'→Q () { s with heap:=h' }) :
  wpAny (model W.prog W.w) A (storeSet a es' t') Q E s:=by
 refine wpAny_storeSet_of (es:=es) (ep:=ep) (t:=t) ho rfl (h _ ?_ (f6 ..)) ?_
 ·have:=li (Obj.putSet es' t') ho rfl
  rw [putSet_of es' t' (o:=cN es ep t) rfl] at this;exact this
 ·rw [sizeLine_eq];lia
noncomputable def lV (W:Wd) (a:Addr) (xs:List Int) (s:Shared) (s':Shared):Prop:=
 (∃ es ep t,s'.heap.get? a=some (cN es ep t)∧cV W es t xs)∧Heap.SameBut a s.heap s'.heap∧s'.gens=s.gens∧s'.os=s.os
theorem vz {b:Bool} (q:Q () s):wpAny (model W.prog W.w) A (match b with | true=>rule "set.scan.the-table-gave-way" | false=>pure ()) Q E s:=by
 induction b<;>first | exact al q | exact wpAny_rule q
theorem mw {es:Array (Int×Value)} {ep:Nat} {t:SetTable} {xs:List Int} {k:Int} {u:Tok} {Q:Bool→Shared→Prop} (ho:s.heap.get? a=some (cN es ep t)) (d:cV W es t xs) (hx:xs.Pairwise (· < ·)) (hf:xs.length+1 < 4000)
  (h:∀ b s',lV W a (io k xs) s s'→Q b s'):wpAny (model W.prog W.w) A (setAddHashed a (.int k u) (hashInt k)) Q E s:=by
 have hel:=d.elems
 have hsb:scanBound=4096:=rfl
 have hb:es.size < scanBound:=by have:=d.few;lia
 unfold setAddHashed setAddHashedIn
 refine b4 (ac (bw ho d ?_))
 dsimp only
 rw [byScan_of rfl hb hel]
 simp only [↓reduceIte]
 unfold setAddByScan
 refine ac ?_
 refine ac (wpAny_rule ?_)
 refine ac (wpAny_setScan_of (knd:=intKind W.prog W.w) (k:=k) (intKind_is _ _ k u) ho rfl d.tab.fits hel ?_)
 induction hr:List.findIdx? (fun e=>(intKind W.prog W.w).is k e.2) es.toList with
 | some j=>
  dsimp only
  obtain ⟨hj,hpj,_⟩:=List.findIdx?_eq_some_iff_getElem.mp hr
  have hm:k∈xs:=(d.key k).mpr ⟨es.toList[j],List.getElem_mem hj,hpj⟩
  refine al (al (h _ _ ⟨⟨es,ep,t,ho,by rw [wG hx hm];exact d⟩,Heap.SameBut.refl a s.heap,rfl,rfl⟩))
 | none=>
  dsimp only
  have hm:k∉xs:=fun hm=>by
   obtain ⟨e,he,hp⟩:=(d.key k).mp hm
   have:=List.findIdx?_eq_none_iff.mp hr e he
   rw [hp] at this;exact Bool.noConfusion this
  have hperm:=layNew_perm t es (hashInt k) (.int k u)
  obtain ⟨htab,hled,hwd⟩:=Cr d.tab es rfl (hashInt k) (.int k u)
  generalize hL:layNew t es (hashInt k) (.int k u)=L at hperm htab hled hwd ⊢
  obtain ⟨es1,t1,wasDummy,gave⟩:=L
  dsimp only at hperm htab hled hwd ⊢
  subst hwd
  rw [Array.toList_push] at hperm
  have hl:=d.length
  have d1:cV W es1 t1 (io k xs):=d.push hm hperm htab hled (by lia)
  have hs1:=d1.few
  refine ac (vz ?_)
  split
  ·refine ac ?_
   rw [hashByValue_scannable 8 (show (Value.int k u).scannable=true from rfl)]
   refine al ?_
   simp only [plainKind,↓reduceIte]
   refine ac (dp ho (by lia) fun h1 ho1 hb1=>?_)
   split
   ·have hp2:=relayAll_perm t1 es1 (SetTable.grown es1.size)
    obtain ⟨ht2,hl2⟩:=pd (t:=t1) (es:=es1) (wanted:=SetTable.grown es1.size)
    generalize hR:relayAll t1 es1 (SetTable.grown es1.size)=R at hp2 ht2 hl2 ⊢
    obtain ⟨es2,t2,gave2⟩:=R
    dsimp only at hp2 ht2 hl2 ⊢
    have d2:cV W es2 t2 (io k xs):=d1.perm' hp2 ht2 (fun e=>hl2.trans e)
    have hs2:=d2.few
    refine ac (vz ?_)
    refine ac (dp (s:={ s with heap:=h1 }) ho1 (by lia) fun h2 ho2 hb2=>?_)
    exact al (al (h _ _ ⟨⟨es2,_,t2,ho2,d2⟩,hb1.trans hb2,rfl,rfl⟩))
   ·exact al (al (h _ _ ⟨⟨es1,_,t1,ho1,d1⟩,hb1,rfl,rfl⟩))
  ·refine ac (al ?_)
   simp only [↓reduceIte]
   refine ac (dp ho (by lia) fun h1 ho1 hb1=>?_)
   split
   ·have hp2:=relayAll_perm t1 es1 (SetTable.grown es1.size)
    obtain ⟨ht2,hl2⟩:=pd (t:=t1) (es:=es1) (wanted:=SetTable.grown es1.size)
    generalize hR:relayAll t1 es1 (SetTable.grown es1.size)=R at hp2 ht2 hl2 ⊢
    obtain ⟨es2,t2,gave2⟩:=R
    dsimp only at hp2 ht2 hl2 ⊢
    have d2:cV W es2 t2 (io k xs):=d1.perm' hp2 ht2 (fun e=>hl2.trans e)
    have hs2:=d2.few
    refine ac (vz ?_)
    refine ac (dp (s:={ s with heap:=h1 }) ho1 (by lia) fun h2 ho2 hb2=>?_)
    exact al (al (h _ _ ⟨⟨es2,_,t2,ho2,d2⟩,hb1.trans hb2,rfl,rfl⟩))
   ·exact al (al (h _ _ ⟨⟨es1,_,t1,ho1,d1⟩,hb1,rfl,rfl⟩))
end
end
section
theorem Kg:∀ k:Fin 32,SetTable.bits (hashInt (k:Nat)) < 32:=by decide +kernel
theorem BP {k:Int} (h:0≤k∧k < 32):SetTable.bits (hashInt k) < 32:=by
 have:=Kg ⟨k.toNat,by lia⟩
 simp only [Int.toNat_of_nonneg h.1] at this
 exact this
theorem Ap:∀ w < 31,(SetTable.sizeAbove w - 1∈[7,15,31])∧w≤SetTable.sizeAbove w - 1∧SetTable.sizeAbove w≤1000:=by decide +kernel
theorem yY (es:Array α) (order:Array Nat) (h:order.toList.Perm (List.range es.size)):(order.filterMap (es[·]?)).toList.Perm es.toList:=by
 rw [Array.toList_filterMap]
 exact (h.filterMap _).trans (by rw [filterMap_getElem?_range])
theorem rz (l:List α):∀ (i:Nat) (h:i < l.length),(l[i]::l.eraseIdx i).Perm l:=by
 induction l with
 | nil=>intro i h;exact absurd h (Nat.not_lt_zero _)
 | cons x l ih=>
  intro i h
  induction i with
  | zero=>exact .refl _
  | succ i=>exact (List.Perm.swap ..).trans ((ih i (Nat.lt_of_succ_lt_succ h)).cons x)
set_option smartUnfolding false in
theorem AN (next:Nat→Nat) (fuel k:Nat) (left:List α) (out:Array α):pickOrder.go next (fuel+1) k left out=Option.rec (motive:=fun _=>Array α) out (fun x=>pickOrder.go next fuel (k+1) (left.eraseIdx (next k % left.length)) (out.push x)) left[next k % left.length]?:=rfl
theorem Ix (next:Nat→Nat) (fuel:Nat):∀ k (left:List α) (out:Array α),left.length≤fuel→(pickOrder.go next fuel k left out).toList.Perm (out.toList++left):=by
 induction fuel with
 | zero=>intro k left out h;rw [eC (Nat.le_antisymm h (cr _)),cj];exact .refl _
 | succ fuel ih=>
  intro k left out h
  rw [AN]
  induction left with
  | nil=>exact .of_eq (cj _).symm
  | cons y l=>
   have hi:next k % (y::l).length < (y::l).length:=Nat.mod_lt _ (Nat.zero_lt_succ _)
   rw [cq hi]
   refine (ih (k+1) _ _ (by rw [List.length_eraseIdx_of_lt hi];exact Nat.le_of_succ_le_succ h)).trans ?_
   rw [Array.toList_push,List.append_assoc]
   exact (rz _ _ hi).append_left _
theorem tW (next:Nat→Nat) (xs:Array α):(pickOrder next xs).toList.Perm xs.toList:=by
 unfold pickOrder
 exact (Ix next xs.size 0 xs.toList #[] (by simp)).trans (by simp)
theorem AJ {M:Model} {E:Value→Shared→Prop} {src:Source} {Q:Nat→Shared→Prop} (hn:n≠0) (h:∀ i,i < n→∀ d,Q i { s with drawn:=d }):wpAny M A (choose src n) Q E s:=by
 intro Γ p hΓ
 rw [choose,Sem.wp_choose]
 exact ⟨hn,h _ (Nat.mod_lt _ (by lia)) _⟩
theorem H0 {M:Model} {E:Value→Shared→Prop} (n:Nat):∀ (xs:List α) (s:Shared) (Q:List α→Shared→Prop),xs.length=n→(∀ l d,l.Perm xs→Q l { s with drawn:=d })→wpAny M A (drawOrder n xs) Q E s:=by
 induction n with
 | zero=>intro xs s Q hn h;cases eC hn;exact al (h [] s.drawn (.refl _))
 | succ n ih=>
  intro xs s Q hn h
  induction xs with
  | nil=>exact absurd hn (Nat.succ_ne_zero n).symm
  | cons x xs=>
   refine ac (AJ (Nat.succ_ne_zero _) fun i hi d=>?_)
   rw [cq hi]
   refine ac (ih _ _ _ (by rw [List.length_eraseIdx_of_lt hi,hn];rfl) fun l d' hl=>al (h _ d' ?_))
   exact (hl.cons _).trans (rz _ i hi)
section
variable {W:Wd} {A:Around} {E:Value→Shared→Prop} {s:Shared} {a o:Addr} {es eo:Array (Int×Value)} {ep epo:Nat} {t to:SetTable} {xs ys:List Int}
inductive L1 (W:Wd) (eo:Array (Int×Value)) (xs:List Int) (m finger moves:Nat) (led plain:Bool):Prop
 | mk (t':SetTable) (order:Array Nat) (e:SetTable.laid m finger moves led plain (eo.map (·.1))=some (t',order)) (hp:(order.filterMap (eo[·]?)).toList.Perm eo.toList) (hz:(order.filterMap (eo[·]?)).size=eo.size)
  (tab:jZ t' (order.filterMap (eo[·]?)).size) (hl:t'.led=led) (hm:t'.mask=m)
theorem Io {t:SetTable} (h1:t.dummies=#[]) (h2:t.place.size=n) (h3:n≤t.mask):t.fits n=true:=by
 unfold SetTable.fits SetTable.fill;rw [h1,h2];simp;lia
theorem relaid {m finger moves:Nat} {led plain:Bool} (hd:cV W eo to xs) (hs:∀ k∈xs,0≤k∧k < 32) (hm:m∈[7,15,31]) (hle:xs.length≤m):L1 W eo xs m finger moves led plain:=by
 have hsz:=hd.length
 obtain ⟨t',order,hlaid,hp⟩:=CA (m:=m) (finger:=finger) (moves:=moves) (led:=led) (plain:=plain) (hashes:=eo.map (·.1)) hm
  (fun x hx=>by
   rw [Array.toList_map,bo] at hx
   obtain ⟨e,he,rfl⟩:=hx
   obtain ⟨k,u,rfl⟩:=hd.els e he
   exact BP (hs k ((hd.key k).mpr ⟨_,he,intKind_is _ _ k u⟩))) (by rw [Array.size_map,hsz];exact hle)
 rw [Array.size_map] at hp
 obtain ⟨l1,l2,l3,l4,l5,l6⟩:=Ak hlaid
 have hpe:=yY eo order hp
 have hse:(order.filterMap (eo[·]?)).size=eo.size:=by rw [← eZ,hpe.length_eq,eZ]
 have hso:order.size=eo.size:=by rw [← eZ,hp.length_eq,eh]
 exact ⟨t',order,hlaid,hpe,hse,⟨Io l1 ((l5.trans hso).trans hse.symm) (by rw [l6,hse,hsz];exact hle),l1,l2⟩,l3,l6⟩
theorem v4 {m:Nat} (h:n=m):¬ (n != m)=true:=by rw [h,bne_self_eq_false];exact bO
theorem Nl {w z:Nat} (h:n≤w) (h2:w < 31) (h3:z≤1000):n < 4100:=by lia
theorem xj {wanted:Nat} (ho:s.heap.get? a=some (cN es ep t)) (d:cV W es t xs) (hs:∀ k∈xs,0≤k∧k < 32) (hw:wanted < 31) (hl:xs.length≤wanted)
  (h:∀ s' es' t',s'.heap.get? a=some (cN es' (ep+1) t')→cV W es' t' xs→t'.mask=SetTable.sizeAbove wanted - 1→Heap.SameBut a s.heap s'.heap→s'.gens=s.gens→s'.os=s.os→Q () s'):wpAny (model W.prog W.w) A (setRelay a wanted) Q E s:=by
 obtain ⟨hm,hge,hz⟩:=Ap wanted hw
 unfold setRelay
 refine ac (bw ho d ?_)
 dsimp only
 have hsz:=d.length
 refine bD (by rw [sizeLine_eq];lia) ?_
 obtain ⟨t',order,hlaid,hpe,hse,htab,l3,l6⟩:=relaid (m:=SetTable.sizeAbove wanted - 1) (finger:=t.finger) (moves:=t.movedTo (SetTable.sizeAbove wanted - 1)) (led:=t.led) (plain:=t.plain) d hs hm (aI hl hge)
 unfold SetTable.relaid
 rw [hlaid]
 refine ac ?_
 show wpAny _ _ (if (order.filterMap (es[·]?)).size != es.size then unsupported "internal:set-table-lost-an-element" >>= fun _=>pure (order.filterMap (es[·]?),t') else pure (order.filterMap (es[·]?),t')) _ _ s
 refine bD (v4 hse) (al ?_)
 have d':cV W (order.filterMap (es[·]?)) t' xs:=d.perm' hpe htab fun e=>l3.trans e
 exact dp ho (Nat.lt_trans d'.few (by decide)) fun h' hg hb=>h _ _ _ hg d' l6 hb rfl rfl
theorem Ib {more:Nat} (ho:s.heap.get? a=some (cN es ep t)) (d:cV W es t xs) (hs:∀ k∈xs,0≤k∧k < 32) (hw:xs.length+more≤15) (h7:xs=[]→t.mask=7)
  (h:∀ s' es' ep' t',s'.heap.get? a=some (cN es' ep' t')→cV W es' t' xs→(xs=[]→t'.mask∈[7,15,31]∧more≤t'.mask)→Heap.SameBut a s.heap s'.heap→s'.gens=s.gens→s'.os=s.os→Q () s'):wpAny (model W.prog W.w) A (setRoomFor a more) Q E s:=by
 unfold setRoomFor
 refine ac (bw ho d ?_)
 dsimp only
 have hsz:=d.length
 have hps:=d.tab.size
 have hfill:t.fill=xs.length:=by unfold SetTable.fill;rw [d.tab.dum,hps,hsz];simp
 unfold SetTable.roomFor
 by_cases hc:(t.fill+more)*5 ≥ t.mask*3
 ·rw [au hc,hps,hsz]
  obtain ⟨hm,hge,_⟩:=Ap ((xs.length+more)*2) (by lia)
  exact xj ho d hs (by lia) (by lia) fun s' es' t' g d' hmk hb e1 e2=>h s' es' _ t' g d' (fun _=>by rw [hmk];exact ⟨hm,by lia⟩) hb e1 e2
 ·rw [av hc]
  refine al (h s es ep t ho d (fun e=>?_) (Heap.SameBut.refl a s.heap) rfl rfl)
  have:=h7 e
  rw [this] at hc ⊢
  exact ⟨by simp,by lia⟩
theorem oH {M:Model} {β:Type} {f:α→β→Sem (ForInStep β)} (r:β) (P:α→Prop) (step:∀ x,P x→∀ Q:ForInStep β→Shared→Prop,Q (.yield r) s→wpAny M A (f x r) Q E s) (l:List α) (hP:∀ x∈l,P x) {Q:β→Shared→Prop} (q:Q r s):wpAny M A (forIn l r f) Q E s:=by
 induction l with
 | nil=>exact al q
 | cons x l ih=>
  rw [List.forIn_cons]
  exact ac (step x (hP x (.head _)) _ (ih fun y hy=>hP y (.tail _ hy)))
theorem Gh {Q:Bool→Shared→Prop} (hso:s.heap.get? o=some (cN eo epo to)) (d':cV W eo to ys) (ho:s.heap.get? a=some (cN es ep t)) (d:cV W es t xs) (q:Q true s):wpAny (model W.prog W.w) A (setsQuiet [o,a]) Q E s:=by
 unfold setsQuiet
 refine ac (oH _ (fun b=>∃ es ep t xs,s.heap.get? b=some (cN es ep t)∧cV W es t xs) (fun b hb Q q=>?_) _ (fun b hb=>?_) (al q))
 ·obtain ⟨es,ep,t,xs,g,d⟩:=hb
  refine ac ?_
  unfold setEntries
  refine ac (bw g d (al (ac ?_)))
  rw [← Array.forIn_toList]
  exact oH _ (fun e=>∃ k u,e=(hashInt k,Value.int k u)) (fun e he Q q=>by obtain ⟨k,u,rfl⟩:=he;exact al q) _ d.els (al q)
 ·rcases aU.mp hb with rfl | hb
  ·exact ⟨_,_,_,_,hso,d'⟩
  ·rw [aV.mp hb];exact ⟨_,_,_,_,ho,d⟩
theorem td {Q:Array (Int×Value)→Shared→Prop} (hao:a≠o) (hso:s.heap.get? o=some (cN eo epo to)) (d':cV W eo to ys) (ho:s.heap.get? a=some (cN es ep t)) (d:cV W es t xs)
  (h:∀ l s',l.toList.Perm eo.toList→(∃ ep' t',s'.heap.get? a=some (cN es ep' t')∧cV W es t' xs)→Heap.SameBut a s.heap s'.heap→s'.gens=s.gens→s'.os=s.os→Q l s'):wpAny (model W.prog W.w) A (setWalkUnseen o [a] (some a)) Q E s:=by
 unfold setWalkUnseen
 refine ac (bw hso d' ?_)
 unfold setsByText
 refine ac (ac (wpAny_askSetting (al ?_)))
 dsimp only
 have walk:(model W.prog W.w).w.params.followText "set-order"=true∨(to.led&&to.plain)=true∨eo.size≤1→wpAny (model W.prog W.w) A (setWalk o) Q E s:=by
  intro hc
  unfold setWalk
  refine ac (bw hso d' ?_)
  unfold setsByText
  refine ac (ac (wpAny_askSetting (al ?_)))
  dsimp only
  by_cases hb:(model W.prog W.w).w.params.followText "set-order"=true
  ·rw [au hb]
   refine ac (wpAny_askSetting (al ?_))
   exact h _ s (tW _ _) ⟨ep,t,ho,d⟩ (Heap.SameBut.refl a s.heap) rfl rfl
  ·rw [av hb]
   show wpAny _ _ (if (!to.plain&&decide (eo.size > 1))=true then _ else _) _ _ s
   rw [av (by
    rcases hc with hc | hc | hc
    ·exact absurd hc hb
    ·rw [bC] at hc;rw [hc.2];simp
    ·rw [bC,decide_eq_true_eq];lia)]
   refine ac (ax (Q:=fun _ s'=>s'=s) (E:=E) ?_ (fun _ s' (e:s'=s)=>?_) am)
   ·show wpAny _ _ (if (!to.led&&decide (eo.size > 1))=true then unsupported "set:maker-not-led" else pure ()) _ _ s
    rw [av (by
     rcases d'.led with hl | hl
     ·exact absurd hl hb
     ·rw [hl];simp)]
    exact al rfl
   ·rw [e]
    exact al (h _ s (.refl _) ⟨ep,t,ho,d⟩ (Heap.SameBut.refl a s.heap) rfl rfl)
 by_cases hc:((model W.prog W.w).w.params.followText "set-order"||to.led&&to.plain||decide (eo.size≤1))=true
 ·rw [au hc]
  refine walk ?_
  rw [Bool.or_eq_true,Bool.or_eq_true,decide_eq_true_eq,or_assoc] at hc
  exact hc
 ·rw [av hc]
  refine ac (Gh hso d' ho d ?_)
  rw [av (by simp)]
  refine ac (wpAny_rule ?_)
  refine ac (bw ho d ?_)
  dsimp only
  have hb:¬ W.w.params.followText "set-order"=true:=fun e=>hc (by rw [show (model W.prog W.w).w.params.followText "set-order"=true from e];rfl)
  have hl1:=d.led.resolve_left hb
  have hl2:=d'.led.resolve_left hb
  split
  ·have:=d.few
   refine ac (dp ho (by lia) fun h' hg hb'=>?_)
   refine al (h _ _ (.refl _) ⟨_,_,hg,d.perm' (.refl _) ⟨d.tab.fits,d.tab.dum,d.tab.rise⟩ fun _=>?_⟩ hb' rfl rfl)
   rw [hl1,hl2];rfl
  ·exact ac (al (al (h _ _ (.refl _) ⟨ep,t,ho,d⟩ (Heap.SameBut.refl a s.heap) rfl rfl)))
theorem Cv (xs ys zs:List Int) (hx:xs.Pairwise (· < ·)) (hp:zs.Perm ys):dF zs xs=canon (xs++ys):=
 bV (dC hx) (aJ _) fun k=>by rw [iR,aN,cD,hp.mem_iff];exact Or.comm
theorem on (ys:List Int) (hy:ys.Pairwise (· < ·)):canon ([]++ys)=ys:=
 bV (aJ _) hy fun k=>by rw [aN,List.nil_append]
theorem xM (xs:List Int) (hx:xs.Pairwise (· < ·)):canon (xs++[])=xs:=
 bV (aJ _) hx fun k=>by rw [aN,cj]
theorem xw {k:Int} {l xs:List Int}:dF (l++[k]) xs=io k (dF l xs):=by
 induction l generalizing xs with
 | nil=>rfl
 | cons b l ih=>exact ih
inductive QI (W:Wd) (a:Addr) (xs:List Int) (s:Shared) (l rest:List (Int×Value)) (r:PUnit) (s':Shared):Prop
 | mk (done:List (Int×Value)) (e:l=done++rest) (z:lV W a (dF (done.map uW) xs) s s')
theorem Kq {done rest l:List (Int×Value)} {x:Int×Value} {xs:List Int} (e:l=done++x::rest) (hl:l.length=n) (h:xs.length+n≤15):(dF (done.map uW) xs).length+1 < 4000:=by
 have:=kJ (r:=done.map uW) (l:=xs)
 rw [ba] at this
 rw [e,bS,eH] at hl
 clear e
 lia
theorem Ej {P:SetTable.Road→Prop} {t to:SetTable} {xs:List Int} (hf:t.fill=xs.length) (p1:xs=[]→P .slotForSlot) (p2:xs=[]→P .clean) (p3:P .oneByOne):P (t.road to):=by
 unfold SetTable.road
 refine iteInduction (fun _=>p3) fun hz=>?_
 have e:xs=[]:=eC (by rw [← hf];simpa using hz)
 exact iteInduction (fun _=>p1 e) fun _=>p2 e
theorem wO {each:Sem Unit} (hao:a≠o) (hso:s.heap.get? o=some (cN eo epo to)) (d':cV W eo to ys) (hy:ys.Pairwise (· < ·)) (ho:s.heap.get? a=some (cN es ep t)) (d:cV W es t xs) (hx:xs.Pairwise (· < ·))
  (hs:∀ k∈xs,0≤k∧k < 32) (hs':∀ k∈ys,0≤k∧k < 32) (hl:xs.length+ys.length≤15) (h7:xs=[]→t.mask=7)
  (heach:∀ (s':Shared) (Q:Unit→Shared→Prop),s'.heap.get? o=some (cN eo epo to)→Q () s'→wpAny (model W.prog W.w) A each Q E s')
  (h:∀ s',lV W a (canon (xs++ys)) s s'→(ys=[]→s'=s)→Q () s'):wpAny (model W.prog W.w) A (setMerge a o each) Q E s:=by
 have hsz':=d'.length
 unfold setMerge
 refine bD (by simpa using hao) ?_
 refine ac (bw hso d' ?_)
 dsimp only
 by_cases hemp:eo.isEmpty=true
 ·refine lI hemp ?_
  have:ys=[]:=eC (by rw [← hsz'];simpa using hemp)
  subst this
  exact al (h s ⟨⟨es,ep,t,ho,by rw [xM xs hx];exact d⟩,Heap.SameBut.refl a s.heap,rfl,rfl⟩ fun _=>rfl)
 ·refine bD hemp ?_
  have hne:ys=[]→∀ s':Shared,s'=s:=fun e=>absurd (by rw [e] at hsz';simpa using hsz') hemp
  refine ac (Ib (more:=eo.size) ho d hs (by lia) h7 fun s1 es1 ep1 t1 ho1 d1 hm1 hb1 hg1 hos1=>?_)
  have hso1:s1.heap.get? o=some (cN eo epo to):=(hb1.2 o (fun e=>hao e.symm)).trans hso
  refine ac (bw ho1 d1 ?_)
  dsimp only
  have hf1:t1.fill=xs.length:=by unfold SetTable.fill;rw [d1.tab.dum,d1.tab.size,d1.length];simp
  have hled:W.w.params.followText "set-order"=true∨(t1.led&&to.led)=true:=by
   rcases d1.led with e | e
   ·exact .inl e
   ·rcases d'.led with e' | e'
    ·exact .inl e'
    ·exact .inr (by rw [e,e'];rfl)
  have few':=d'.few
  refine Ej (P:=fun r=>wpAny (model W.prog W.w) A (match r with | .slotForSlot=>_ | .clean=>_ | .oneByOne=>_) Q E s1) hf1 (fun e=>?_) (fun e=>?_) ?_
  ·subst e
   refine dp ho1 (by lia) fun h' hg hb=>h _ ⟨⟨eo,_,_,hg,?_⟩,hb1.trans hb,hg1,hos1⟩ fun e=>hne e _
   rw [on ys hy]
   exact ⟨d'.els,d'.perm,⟨d'.tab.fits,d'.tab.dum,d'.tab.rise⟩,hled,d'.few⟩
  ·subst e
   obtain ⟨hm,hle⟩:=hm1 rfl
   obtain ⟨t',order,hlaid,hpe,hse,htab,hl',_⟩:=relaid (m:=t1.mask) (finger:=t1.finger) (moves:=t1.moves) (led:=t1.led&&to.led) (plain:=t1.plain&&to.plain) d' hs' hm (by rw [← hsz'];exact hle)
   dsimp only
   rw [hlaid]
   refine ac ?_
   show wpAny _ _ (if (order.filterMap (eo[·]?)).size != eo.size then unsupported "internal:set-table-lost-an-element" >>= fun _=>pure (order.filterMap (eo[·]?),t') else pure (order.filterMap (eo[·]?),t')) _ _ s1
   refine bD (v4 hse) (al ?_)
   dsimp only
   refine dp ho1 (by lia) fun h' hg hb=>h _ ⟨⟨_,_,_,hg,?_⟩,hb1.trans hb,hg1,hos1⟩ fun e=>hne e _
   rw [on ys hy]
   refine ⟨fun e he=>d'.els e (hpe.mem_iff.mp he),(hpe.map _).trans d'.perm,htab,by rw [hl'];exact hled,by rw [hse];exact d'.few⟩
  ·dsimp only
   refine ac (td hao hso1 d' ho1 d1 fun l s2 hp ⟨ep2,t2,ho2,d2⟩ hb2 hg2 hos2=>?_)
   rw [← Array.forIn_toList]
   have hso2:s2.heap.get? o=some (cN eo epo to):=(hb2.2 o (fun e=>hao e.symm)).trans hso1
   refine ac (wpAny_forIn_list _ (QI W a xs s l.toList) _ ?_ ?_ _ _ ⟨[],rfl,⟨⟨es1,ep2,t2,ho2,(show cV W es1 t2 (dF (([]:List (Int×Value)).map uW) xs) from d2)⟩,hb1.trans hb2,hg2.trans hg1,hos2.trans hos1⟩⟩)
   ·rintro ⟨hh,x⟩ rest r s' ⟨done,e,⟨es',ep',t',g',dd⟩,b',gg,oo⟩
    obtain ⟨k,u,hk⟩:=d'.els (hh,x) (hp.mem_iff.mp (by rw [e];exact du _ (.head _)))
    cases hk
    dsimp only
    refine ac (b4 (mw g' dd (dC hx) (Kq e (hp.length_eq.trans (eZ.trans hsz')) hl) fun b s3 z3=>?_))
    obtain ⟨e3,b3,g3,o3⟩:=z3
    have hso3:s3.heap.get? o=some (cN eo epo to):=by
     exact (b3.2 o (Ne.symm hao)).trans ((b'.2 o (Ne.symm hao)).trans hso)
    refine ac (heach _ _ hso3 ?_)
    refine ac (bw hso3 d' ?_)
    dsimp only
    refine bD (v4 rfl) ?_
    refine al ⟨done++[(hashInt k,Value.int k u)],by rw [e,List.append_assoc];rfl,⟨?_,b'.trans b3,g3.trans gg,o3.trans oo⟩⟩
    rw [dK]
    show ∃ es ep t,_∧cV W es t (dF (done.map uW++[k]) xs)
    rw [xw];exact e3
   ·rintro r s' ⟨done,e,z⟩
    rw [cj] at e
    refine al (h s' ?_ fun e=>hne e _)
    rw [Cv xs ys (done.map uW) hx (by rw [← e];exact (hp.map _).trans d'.perm)] at z
    exact z
end
end
section
theorem vm:entryFor table "set.__or__"=some Builtin.«frozenset.__or__»:=
 entryFor_alias (id':="frozenset.__or__") (by kernel_rfl) rfl (by decide +kernel) (by kernel_rfl)
section
variable {W:Wd} {F:Addr→Prop} {s:Shared} {A:Around} {E:Value→Shared→Prop}
theorem lV.trans {xs ys:List Int} {s₁ s₂ s'3:Shared} (x:lV W a xs s₁ s₂) (y:lV W a ys s₂ s'3):lV W a ys s₁ s'3:=
 ⟨y.1,x.2.1.trans y.2.1,y.2.2.1.trans x.2.2.1,y.2.2.2.trans x.2.2.2⟩
theorem CE {Q:Value→Shared→Prop} (h:∀ t,cV W #[] t []→t.mask=7→Q (.ref s.heap.objs.size) { s with heap:=s.heap.push (cN #[] 0 t) }):wpAny (model W.prog W.w) A (newSet (.type "set")) Q E s:=by
 unfold newSet setsByText
 refine ac (ac (wpAny_askSetting (al ?_)))
 dsimp only
 simp only [newObj]
 refine ac (wpAny_alloc (al (h _ ⟨fun e he=>by simp at he,.refl _,⟨rfl,rfl,List.Pairwise.nil⟩,?_,by decide⟩ rfl)))
 show _∨(!(model W.prog W.w).w.params.followText "set-order")=true
 show W.w.params.followText "set-order"=true∨(!W.w.params.followText "set-order")=true
 cases W.w.params.followText "set-order"<;>simp
theorem ve:isSubtype (.type "set") (.type "set")=pure true:=by rw [isSubtype_type];kernel_rfl
theorem ng {o:Obj} {Q:Bool→Shared→Prop} (ho:s.heap.get? a=some o) (hc:o.cls=.type "set") (q:Q true s):wpAny (model W.prog W.w) A (Builtin.Frozenset.isAnySet (.ref a)) Q E s:=by
 unfold Builtin.Frozenset.isAnySet
 refine ac (wpAny_isInstance (T:="set") (b:=true) ⟨o,ho,hc⟩ ve ?_)
 exact al q
theorem O6 {xs:List Int} (n:s.heap.get? a=none) (x:lV W a xs s s') (hx:xs.Pairwise (· < ·)) (l:xs.length≤SZ):fy W F s (.set xs) (.ref a) s':=by
 obtain ⟨⟨es,ep,t,g,d⟩,b,e1,e2⟩:=x
 have k:∀ b' o,s.heap.get? b'=some o→s'.heap.get? b'=some o:=fun b' o e=>(b.2 b' (fun q=>by rw [q,n] at e;exact nomatch e)).trans e
 exact ⟨fun c=>F c∨c∈[a],cf.add (as:=[a]) ⟨e1,e2,k,fun _ f=>f,fun _=>.inl⟩ (fun c hc=>by rw [aV.mp hc];exact n) (fun c hc=>by rw [aV.mp hc];exact ⟨_,g⟩),.set (.inr (aV.mpr rfl)) l ⟨es,ep,t,g,d,hx⟩⟩
theorem bK:∀ (l:List Int),(canon l).length≤l.length
 | []=>by simp [canon]
 | a::l=>by unfold canon;have:=o9 (a:=a) (l:=canon l);have:=bK l;rw [eH];lia
theorem Hp {xs ys:List Int} (x:VR W F s.heap (.set xs) va) (y:VR W F s.heap (.set ys) vb) (l:Iw xs ys=true):wpAny (model W.prog W.w) A (binaryOp .BitOr va vb) (fy W F s (.set (canon (xs++ys)))) E s:=by
 obtain ⟨a,rfl,_,es,ep,t,ga,d,hx⟩:=x.q.set_inv
 obtain ⟨b,rfl,_,eo,epo,to,gb,d',hy⟩:=y.q.set_inv
 unfold Iw at l
 rw [bC,bC,decide_eq_true_eq,aY,aY] at l
 obtain ⟨⟨l,l1⟩,l2⟩:=l
 have hs:∀ k∈xs,0≤k∧k < 32:=fun k hk=>bI (l1 k hk)
 have hs':∀ k∈ys,0≤k∧k < 32:=fun k hk=>bI (l2 k hk)
 have ta:s.TypeIs (.ref a) "set":=⟨_,ga,rfl⟩
 have tb':s.TypeIs (.ref b) "set":=⟨_,gb,rfl⟩
 have hlen:(canon (xs++ys)).length≤SZ:=by
  have:=bK (xs++ys);rw [bS] at this;have:SZ=1048576:=rfl;lia
 refine wpAny_binaryOp_same ta tb' PySem.F.fills_set_or PySem.F.slot_set_or (eP PySem.F.slot_set_or ta vm ?_ (PySem.F.args_set_or_2 _ _))
 show wpAny _ _ (do
  let (self,other) ← Builtin.Frozenset.slot1 "__or__" ⟨[.ref a,.ref b],[]⟩
  let (l,r):=if false then (other,self) else (self,other)
  if !(← Builtin.Frozenset.isAnySet l <&&> Builtin.Frozenset.isAnySet r) then rule s!"frozenset.__or__.declined";return ← ret .notImplemented
  ret (← (do
   let result ← Builtin.Frozenset.copyOf (← Builtin.Frozenset.addrOf l)
   if r != .ref (← Builtin.Frozenset.addrOf l) then holding [result] (Builtin.Frozenset.updateFrom s!"frozenset.__or__" (← Builtin.Frozenset.addrOf result) r)
   return result))) _ _ s
 refine ac (ac (al (al ?_)))
 dsimp only
 refine ac (ac (ng ga rfl ?_))
 refine ng gb rfl ?_
 rw [av (by simp)]
 refine ac ?_
 refine ac (al ?_)
 refine ac ?_
 unfold Builtin.Frozenset.copyOf
 have size_ne:∀ {c:Addr} {o:Obj},s.heap.get? c=some o→s.heap.objs.size≠c:=fun e q=>f7 _ (q▸ei e)
 refine ac ?_
 unfold Builtin.Frozenset.baseOf
 refine ac (wpAny_isInstance (T:="set") (b:=true) ta ve (al ?_))
 simp only [↓reduceIte]
 refine ac (CE fun t0 d0 hm0=>?_)
 refine ac (al ?_)
 have gr:(s.heap.push (cN #[] 0 t0)).get? s.heap.objs.size=some (cN #[] 0 t0):=dH _ rfl
 refine ac (wO (s:={ s with heap:=s.heap.push (cN #[] 0 t0) }) (size_ne ga) (bU _ ga) d hx gr d0 List.Pairwise.nil (fun k hk=>nomatch hk) hs (by rw [List.length_nil];lia) (fun _=>hm0)
  (fun s' Q _ q=>al q) fun s1 z1 hz1=>?_)
 rw [on xs hx] at z1
 have k1:∀ c o,s.heap.get? c=some o→s1.heap.get? c=some o:=fun c o e=>(z1.2.1.2 c (fun q=>size_ne e q.symm)).trans (bU _ e)
 have z1':∀ {zs s2},lV W s.heap.objs.size zs s1 s2→zs.Pairwise (· < ·)→zs.length≤SZ→fy W F s (.set zs) (.ref s.heap.objs.size) s2:=by
  intro zs s2 z hz hzl
  obtain ⟨⟨es,ep,t,g,d⟩,b,e1,e2⟩:=z
  have k:∀ b' o,s.heap.get? b'=some o→s2.heap.get? b'=some o:=fun b' o e=>(b.2 b' (fun q=>size_ne e q.symm)).trans (k1 _ _ e)
  have e3:=z1.2.2.1
  have e4:=z1.2.2.2
  exact ⟨fun c=>F c∨c∈[s.heap.objs.size],cf.add (as:=[s.heap.objs.size]) ⟨e1.trans e3,e2.trans e4,k,fun _ f=>f,fun _=>.inl⟩ (fun c hc=>by rw [aV.mp hc];exact aS _) (fun c hc=>by rw [aV.mp hc];exact ⟨_,g⟩),.set (.inr (aV.mpr rfl)) hzl ⟨es,ep,t,g,d,hz⟩⟩
 refine al (ac (al ?_))
 by_cases hab:b=a
 ·subst hab
  have hxy:xs=ys:=by
   rw [ga] at gb
   cases gb
   exact bV hx hy fun k=>(d.key k).trans (d'.key k).symm
  subst hxy
  rw [av (by simp)]
  refine al (al ⟨_,rfl,by simp,?_⟩)
  have e5:canon (xs++xs)=xs:=bV (aJ _) hx fun k=>by rw [aN,cD,or_self]
  rw [e5]
  exact z1' ⟨z1.1,Heap.SameBut.refl _ _,rfl,rfl⟩ hx (by have:SZ=1048576:=rfl;lia)
 ·rw [au (by simpa using hab)]
  refine ac (al ?_)
  obtain ⟨es1,ep1,t1,g1,d1⟩:=z1.1
  refine ac (b4 ?_)
  unfold Builtin.Frozenset.updateFrom
  have gb1:=k1 _ _ gb
  refine ac (ng gb1 rfl ?_)
  simp only [↓reduceIte]
  refine ac (al ?_)
  unfold Builtin.Frozenset.merge
  refine ac (jx gb1 d' ?_)
  refine wO (size_ne gb) gb1 d' hy g1 d1 hx hs hs' l (fun e=>?_) (fun s' Q hg q=>?_) fun s2 z2 _=>?_
  ·have:=hz1 e
   subst this
   rw [gr] at g1
   cases g1
   exact hm0
  ·unfold Builtin.Frozenset.unchanged
   refine ac (jx hg d' ?_)
   rw [av (by simp)]
   exact al q
  ·refine al (al ⟨_,rfl,by simp,z1' z2 (aJ _) hlen⟩)
end
end
section
theorem sub_succ {k:Nat} (h:n - i=k+1):n - (i+1)=k:=by rw [Nat.sub_succ,h];rfl
theorem yM {l:List Int} (e:c6 xs=some l) (i:Nat):xs[i]? = (l[i]?).map .int:=by rw [ew e,dL]
theorem fA {l:List Int} (e:c6 xs=some l):l.length=xs.length:=by rw [ew e,ba]
section
variable {W:Wd} {F:Addr→Prop} {s:Shared} {A:Around} {E:Value→Shared→Prop}
theorem Gq {h:Heap} (e:c6 xs=some ks) (r:bR W F h xs vs):bR W (fun _=>False) h xs vs:=by
 have:=wr e r
 rw [ew e];exact wt this
noncomputable def ez (W:Wd):SetTable:=.fresh 0 0 (!W.w.params.followText "set-order")
theorem ED (W:Wd):cV W #[] (ez W) []:=by
 refine ⟨fun e he=>by simp at he,.refl _,⟨rfl,rfl,List.Pairwise.nil⟩,?_,by decide⟩
 show _∨(!W.w.params.followText "set-order")=true
 cases W.w.params.followText "set-order"<;>simp
theorem vw (a:Value) {Q₁:Value→Shared→Prop} (h:Q₁ (.ref s.heap.objs.size) { s with heap:=s.heap.push (cN #[] 0 (ez W)) }) :
  codeAny (model W.prog W.w) A (.call (.builtin "set.__new__") ⟨[.type "set",a],[]⟩) (wants Q₁ E) s:=by
 refine codeAny_of_tree ?_
 show wpAny _ A.in1 (do checkBuiltinCall "set.__new__" ⟨[.type "set",a],[]⟩;again (.builtin "set.__new__" ⟨[.type "set",a],[]⟩)) _ _ s
 refine ac (wpAny_of_eq (PySem.F.newCall_set_1 a) (al ⟨plainId_quiet PySem.F.plain_set_new _,codeAny_builtin PySem.F.entry_set_new ?_⟩))
 rw [Around.under_plainId PySem.F.plain_set_new _]
 unfold Builtin.«set.__new__» Builtin.Frozenset.newClass
 have hsub:=PySem.sub_set_self
 obtain ⟨hp,g,d,tk,os⟩:=s
 dsimp only
 wp_walk
 refine wpAny_askSetting (al ?_)
 dsimp only
 simp only [newObj]
 refine ac (wpAny_alloc (al ?_))
 exact al h
theorem Fa {R:Result→Shared→Prop} {D I l:Addr} (hA:A.handled=none) (hg:s.heap.get? l=some (seqObj "list" vs.toArray n)) (rv:bR W (fun _=>False) s.heap xs vs)
  (hks:c6 xs=some ks) (hlen:ks.length≤1000) (hI:s.heap.get? I=none) (hD:s.heap.get? D=none) (hID:I≠D)
  (fin:∀ s',(∀ b o,s.heap.get? b=some o→s'.heap.get? b=some o)→s'.gens=s.gens→s'.os=s.os→(∃ es ep t,s'.heap.get? D=some (cN es ep t)∧cV W es t (dF ks []))→R (.ok (.ret .none)) s') :
  ∀ (k i:Nat) (s':Shared) (es:Array (Int×Value)) (ep:Nat) (t:SetTable),xs.length - i=k→i≤xs.length→(∀ b o,s.heap.get? b=some o→s'.heap.get? b=some o)→s'.gens=s.gens→s'.os=s.os→g4 s'.heap I i (.list l)→
   s'.heap.get? D=some (cN es ep t)→cV W es t (dF (ks.take i) [])→
   codeAny (model W.prog W.w) A (.builtin "set.update.loop" ⟨[.ref D,.ref I],[]⟩) R s':=by
 have hIl:I∉Hd.at (.list l):=fun m=>by
  have:I=l:=aV.mp m
  rw [this,hg] at hI;exact nomatch hI
 have hl:=fA hks
 intro k
 induction k with
 | zero=>
  intro i s' es ep t hk hi kp hgn hos it hd d
  have hin:xs.length≤i:=Nat.le_of_sub_eq_zero hk
  refine codeAny_builtin F.entry_set_update_loop ?_
  rw [Around.under_plainId F.plain_set_update_loop _]
  show wpAny _ A.in1 (pyNext (.ref I) >>= _) _ _ s'
  refine ac (ax (kB (F:=fun _=>False) (xs:=xs) (show A.in1.handled=none from hA) id it ⟨vs,n,kp _ _ hg,rv.mono (fun _ f=>f) fun a o _ e=>kp a o e⟩ hIl) (fun r' s₂ z=>?_) am)
  have res:=z.res
  rw [List.getElem?_eq_none hin] at res
  subst res
  show wpAny _ A.in1 (ret Value.none) _ _ s₂
  refine al (fin s₂ (fun b o e=>z.keep b o (fun q=>by rw [q,hI] at e;exact nn e) (kp b o e)) (z.gens.trans hgn) (z.os.trans hos) ⟨es,ep,t,z.keep D _ (fun q=>hID q.symm) hd,?_⟩)
  rw [List.take_of_length_le (hl▸hin)] at d
  exact d
 | succ k ih=>
  intro i s' es ep t hk hi kp hgn hos it hd d
  have hlt:i < xs.length:=Nat.lt_of_sub_eq_succ hk
  refine codeAny_builtin F.entry_set_update_loop ?_
  rw [Around.under_plainId F.plain_set_update_loop _]
  show wpAny _ A.in1 (pyNext (.ref I) >>= _) _ _ s'
  refine ac (ax (kB (F:=fun _=>False) (xs:=xs) (show A.in1.handled=none from hA) id it ⟨vs,n,kp _ _ hg,rv.mono (fun _ f=>f) fun a o _ e=>kp a o e⟩ hIl) (fun r' s₂ z=>?_) am)
  have res:=z.res
  have hki:i < ks.length:=hl▸hlt
  have hxi:xs[i]? = some (.int ks[i]):=by rw [yM hks i,cq hki];rfl
  rw [hxi] at res
  obtain ⟨v,rfl,rvv,it2⟩:=res
  obtain ⟨u,rfl⟩:=rvv.q.int_inv
  have hd2:=z.keep D _ (fun q=>hID q.symm) hd
  show wpAny _ A.in1 (holding [Value.int ks[i] u] (setAdd D (.int ks[i] u)) >>= _) _ _ s₂
  refine ac (b4 ?_)
  unfold setAdd
  refine b4 ?_
  refine ac ((intKind W.prog W.w).pyHash (k:=ks[i]) (intKind_is _ _ _ _) ?_)
  have hlen':(dF (ks.take i) []).length≤i:=by
   have:=kJ (r:=ks.take i) (l:=[])
   rw [List.length_take,List.length_nil] at this
   exact aI this (Nat.min_le_left _ _)
  refine mw (s:={ s₂ with toks:=s₂.toks+1 }) hd2 d (dC List.Pairwise.nil) (eG (gC (aI hlen' (aI (Nat.le_of_lt hki) hlen))) (by decide)) fun b s'3 z'3=>?_
  obtain ⟨⟨es3,ep3,t'3,g'3,d'3⟩,b'3,e1,e2⟩:=z'3
  have e5:dF (ks.take (i+1)) []=io ks[i] (dF (ks.take i) []):=
   bV (dC List.Pairwise.nil) (g6 (dC List.Pairwise.nil)) fun z=>by
    rw [gG,iR,iR,List.take_add_one,cq hki,cD]
    simp only [Option.toList_some,aV,List.not_mem_nil,or_false]
    exact Or.comm
  refine al ⟨plainId_quiet F.plain_set_update_loop _,ih (i+1) s'3 es3 ep3 t'3 (sub_succ hk) hlt (fun b o e=>?_) (e1.trans (z.gens.trans hgn)) (e2.trans (z.os.trans hos)) (it2.keep fun o e=>?_) g'3 (by rw [e5];exact d'3)⟩
  ·exact (b'3.2 b (fun q=>by rw [q,hD] at e;exact nn e)).trans (z.keep b o (fun q=>by rw [q,hI] at e;exact nn e) (kp b o e))
  ·exact (b'3.2 I hID).trans e
theorem mD {Q:String→Shared→Prop} (hT:s.TypeIs (.ref a) "set") (h:Q "set" s):wpAny (model W.prog W.w) A (typeNameOfCut 200 (.ref a)) Q E s:=by
 unfold typeNameOfCut shownTypeOf
 refine ac (ac (wpAny_typeOf hT ?_))
 simp only [show (Value.type "set"==Value.type "builtin_function_or_method")=false by decide,Bool.false_eq_true,if_false]
 refine al ?_
 have e:typeName (.type "set")=pure "set":=by unfold typeName;rw [find?_eq_fast];kernel_rfl
 rw [show typeNameCut 200 (.type "set")=typeName (.type "set") from rfl,e];exact al h
theorem rV {prog:Program} {w:World} {T newId initId:String} {Bi:Builtin} {args:List Value} {Q Q₁:Value→Shared→Prop} (ft:TypeCalled T newId initId)
  (hct:checkTypeCall T ⟨args,[]⟩=pure ()) (entryI:entryFor table initId=some Bi)
  (hnew:codeAny (model prog w) A.in1 (.call (.builtin newId) ⟨.type T::args,[]⟩) (wants Q₁ E) s)
  (hnext:∀ obj s₁,Q₁ obj s₁→s₁.TypeIs obj T∧codeAny (model prog w) A.in1 (.call (.builtin initId) ⟨obj::args,[]⟩) (wants (fun r s₂=>r=.none∧Q obj s₂) E) s₁) :
  wpAny (model prog w) A (call (.type T) args) Q E s:=by
 obtain ⟨c,tl,hmro⟩:=ft.mro
 have hmade:=ft.made
 have hsub:=ft.sub
 refine wpAny_call (codeAny_of_tree ?_)
 show wpAny _ _ (callAny (.type T) _) _ _ _
 refine al ⟨Code.quiet_builtin _ (by decide +kernel),codeAny_builtin PySem.F.entry_type_call ?_⟩
 rw [Around.under_plain (weight_type_call_type T args []) rfl]
 have h1:=ft.notType
 have h2:=ft.canCreate
 repeat (any_goals (first | assumption | wp_step))
 refine codeAny_mono hnew fun r s₁ hr=>?_
 induction r with
 | error e=>exact hr
 | ok fl=>
  induction fl with
  | ret obj=>
   obtain ⟨hT,hok⟩:=hnext _ _ hr
   have hli:=ft.init.lookup
   have hbi:=ft.init.bind obj
   repeat (any_goals (first | assumption | wp_step))
   refine codeAny_mono hok fun r'2 s₂ hr2=>?_
   induction r'2 with
   | error e=>exact hr2
   | ok fl2=>
    induction fl2 with
    | ret r=>
     obtain ⟨rfl,hq⟩:=hr2
     repeat (any_goals (first | assumption | wp_step))
    | _=>exact hr2.elim
  | _=>exact hr.elim
theorem D2 {l:Addr} {Q:Value→Shared→Prop} (hA:A.handled=none) (hg:s.heap.get? l=some (seqObj "list" vs.toArray n)) (rv:bR W (fun _=>False) s.heap xs vs)
  (hks:c6 xs=some ks) (hlen:ks.length≤1000)
  (h:∀ s',(∀ b o,s.heap.get? b=some o→s'.heap.get? b=some o)→s'.gens=s.gens→s'.os=s.os→(∃ es ep t,s'.heap.get? s.heap.objs.size=some (cN es ep t)∧cV W es t (dF ks []))→Q (.ref s.heap.objs.size) s') :
  wpAny (model W.prog W.w) A (call (.type "set") [.ref l]) Q E s:=by
 refine rV (Q₁:=fun obj s₁=>obj=.ref s.heap.objs.size∧s₁={ s with heap:=s.heap.push (cN #[] 0 (ez W)) }) PySem.F.called_set (PySem.F.typeCall_set_1 (.ref l)) PySem.F.entry_set_init
  (vw (W:=W) (.ref l) (E:=E) ⟨rfl,rfl⟩) ?_
 rintro obj s₁ ⟨rfl,rfl⟩
 have hS:(s.heap.push (cN #[] 0 (ez W))).get? s.heap.objs.size=some (cN #[] 0 (ez W)):=dH _ rfl
 have hT:Shared.TypeIs { s with heap:=s.heap.push (cN #[] 0 (ez W)) } (.ref s.heap.objs.size) "set":=⟨_,hS,rfl⟩
 refine ⟨hT,codeAny_call_builtin (A:=A.in1) PySem.F.called_set.init.plain PySem.F.entry_set_init (PySem.check_set_init_1 hT ?_)⟩
 have hol':(s.heap.push (cN #[] 0 (ez W))).get? l=some (seqObj "list" vs.toArray n):=bU _ hg
 have hl1:(s.heap.push (cN #[] 0 (ez W))).IsList l vs.toArray:=⟨_,hol',rfl,n,rfl⟩
 have hTl:Shared.TypeIs { s with heap:=s.heap.push (cN #[] 0 (ez W)) } (.ref l) "list":=⟨_,hol',rfl⟩
 unfold Builtin.«set.__init__»
 refine ac (al ?_)
 dsimp only
 refine ac (mD hT ?_)
 refine ac (m:=checkCount "set" 0 1 _) (al ?_)
 refine ac (al ?_)
 refine ac ?_
 unfold setUsed
 refine ac (bw hS (ED W) (al ?_))
 rw [av (by simp [ez,SetTable.fresh,SetTable.fill])]
 refine ac ?_
 unfold Builtin.Frozenset.updateFrom
 refine ac ?_
 unfold Builtin.Frozenset.isAnySet
 refine ac (wpAny_isInstance (T:="list") (b:=false) hTl PySem.F.sub_list_set ?_)
 refine wpAny_isInstance (T:="list") (b:=false) hTl PySem.F.sub_list_frozenset ?_
 rw [av (by simp)]
 refine ac (wpAny_typeOf hTl ?_)
 rw [av (by decide)]
 refine ac (wpAny_pyIter_list hl1 ?_)
 refine ac (wpAny_runValue ?_)
 have hsz:(s.heap.push (cN #[] 0 (ez W))).objs.size=s.heap.objs.size+1:=by rw [Heap.size_push]
 have hIn:s.heap.get? (s.heap.push (cN #[] 0 (ez W))).objs.size=none:=by
  induction q:s.heap.get? (s.heap.push (cN #[] 0 (ez W))).objs.size with
  | none=>rfl
  | some o=>exact absurd (hsz▸ei q) (Nat.not_lt.mpr (Nat.le_succ _))
 refine Fa (s:=s) (A:=A.in1.in1) (l:=l) (n:=n) (D:=s.heap.objs.size) hA hg rv hks hlen hIn (aS _) (by show (s.heap.push (cN #[] 0 (ez W))).objs.size≠s.heap.objs.size;rw [hsz];exact Nat.succ_ne_self _) (fun s' kp e1 e2 hd=>?_) xs.length 0 _ #[] 0 (ez W) (by lia) (cr _) (fun b o e=>?_) rfl rfl ?_ ?_ (ED W)
 ·exact al (al ⟨rfl,h s' kp e1 e2 hd⟩)
 ·exact bU _ (bU _ e)
 ·exact ⟨_,dH _ rfl,rfl,rfl⟩
 ·exact bU _ hS
theorem L4 {a t:T} (hA:A.handled=none) (x:dZ W F s.heap a v) (e:bi .set a=some t):wpAny (model W.prog W.w) A (call (.type "set") [v]) (fy W F s t) E s:=by
 refine dy e fun xs hx e=>sD e fun hl e=>eU e fun ks hks z=>?_
 obtain ⟨vs,a,n,rfl,g,_,r⟩:=(et hx▸x).list_inv
 have hlen:=fA hks
 rw [z]
 refine D2 hA g (Gq hks r) hks (by clear z e;lia) fun s' k e1 e2 ⟨es,ep,t,g',d⟩=>?_
 have e5:dF ks []=canon ks:=bV (dC List.Pairwise.nil) (aJ ks) fun z=>by rw [iR,aN];simp
 rw [e5] at d
 have:=bK ks
 exact ⟨fun c=>F c∨c∈[s.heap.objs.size],cf.add (as:=[s.heap.objs.size]) ⟨e1,e2,k,fun _ f=>f,fun _=>.inl⟩ (fun c hc=>by rw [aV.mp hc];exact aS _) (fun c hc=>by rw [aV.mp hc];exact ⟨_,g'⟩),.set (.inr (aV.mpr rfl)) (aI this (aI (er hlen) (aI hl (by decide)))) ⟨es,ep,t,g',d,aJ ks⟩⟩
end
end
end Nz
namespace Nz
open PySem PySem.W
variable {p:Int×Int} {ps:List (Int×Int)}
section
theorem dW {q:Int×Int}:dc p q=true↔p.1 < q.1∨p.1=q.1∧p.2 < q.2:=by
 unfold dc;rw [Bool.or_eq_true,bC,decide_eq_true_eq,decide_eq_true_eq,decide_eq_true_eq]
theorem u3 (p:Int×Int):dc p p=false:=Bool.eq_false_iff.mpr fun h=>(dW.mp h).elim (Int.lt_irrefl _) fun h=>Int.lt_irrefl _ h.2
theorem nB {q r:Int×Int} (h:dc p q=true) (h':dc q r=true):dc p r=true:=
 dW.mpr ((dW.mp h).elim (fun a=>.inl ((dW.mp h').elim (fun c=>Int.lt_trans a c) fun c=>c.1▸a))
  fun a=>(dW.mp h').elim (fun c=>.inl (a.1▸c)) fun c=>.inr ⟨a.1.trans c.1,Int.lt_trans a.2 c.2⟩)
theorem u5 {q:Int×Int} (h:p≠q):dc p q=true∨dc q p=true:=by
 rcases Int.lt_trichotomy p.1 q.1 with a | a | a
 ·exact .inl (dW.mpr (.inl a))
 ·rcases Int.lt_trichotomy p.2 q.2 with b | b | b
  ·exact .inl (dW.mpr (.inr ⟨a,b⟩))
  ·exact absurd (Prod.ext a b) h
  ·exact .inr (dW.mpr (.inr ⟨a.symm,b⟩))
 ·exact .inr (dW.mpr (.inl a))
theorem Gi {q:Int×Int} (h:dc p q=true):dc q p=false:=
 Bool.eq_false_iff.mpr fun e=>by have:=nB h e;rw [u3] at this;exact bt this
noncomputable abbrev fh (l:List (Int×Int)):Prop:=l.Pairwise fun p q=>dc p q=true
theorem wW {P:List (Int×Int)→List (Int×Int)→Prop} (h0:P [] [p]) (h1:∀ q r,dc p q=true→P (q::r) (p::q::r)) (h2:∀ q r,¬ dc p q=true→P r (w5 p r)→P (q::r) (q::w5 p r)) (l:List (Int×Int)):P l (w5 p l):=by
 induction l with
 | nil=>exact h0
 | cons q r ih=>
  show P _ (if dc p q=true then p::q::r else q::w5 p r)
  exact iteInduction (fun e=>h1 q r e) fun e=>h2 q r e ih
theorem kc (p:Int×Int) (l:List (Int×Int)):(w5 p l).Perm (p::l):=
 wW (P:=fun l m=>m.Perm (p::l)) (.refl _) (fun _ _ _=>.refl _) (fun q r _ ih=>(ih.cons q).trans (.swap ..)) l
theorem bH (l:List (Int×Int)):(bh l).Perm l:=by
 induction l with
 | nil=>exact .refl _
 | cons p r ih=>exact (kc p _).trans (ih.cons p)
theorem wH {l:List (Int×Int)} (h:fh l) (hn:p∉l):fh (w5 p l):=
 wW (P:=fun l m=>fh l→p∉l→m.Perm (p::l)→fh m) (fun _ _ _=>List.pairwise_singleton _ _)
  (fun q r e h _ _=>List.pairwise_cons.mpr ⟨fun x hx=>(aU.mp hx).elim (fun d=>d▸e) fun d=>nB e (List.rel_of_pairwise_cons h d),h⟩)
  (fun q r e ih h hn _=>List.pairwise_cons.mpr ⟨fun x hx=>(aU.mp ((kc p r).mem_iff.mp hx)).elim
   (fun d=>d▸(u5 fun c:p=q=>hn (by rw [c];exact .head r)).resolve_left e) fun d=>List.rel_of_pairwise_cons h d,ih h.of_cons (fun m=>hn (.tail _ m)) (kc p r)⟩) l h hn (kc p l)
theorem ie {l:List (Int×Int)} (h:l.Nodup):fh (bh l):=by
 induction l with
 | nil=>exact .nil
 | cons p r ih=>exact wH (ih (cO.mp h).2) fun m=>(cO.mp h).1 ((bH r).mem_iff.mp m)
theorem zS {xs ys:List (Int×Int)} (hx:fh xs) (hy:fh ys) (h:xs.Perm ys):xs=ys:=
 h.eq_of_pairwise (fun _ _ _ _ p q=>by rw [Gi p] at q;exact bt q) hx hy
noncomputable def GH {α:Type} (lt:Nat→Nat→Bool) (n:Nat):KasT α→Option α
 | .ret a=>some a
 | .ask i j k=>if i < n∧j < n then GH lt n (k (lt i j)) else none
noncomputable def Pw (n:Nat) (r:Nat→Nat):Bool:=((GH (fun i j=>decide (r i < r j)) n (kas_sort n)).map fun p=>p.toList.isPerm (List.range n)&&decide (p.toList.map r=List.range n)).getD false
noncomputable def HE (n:Nat):Nat→List (List Nat)
 | 0=>[[]]
 | m+1=>(HE n m).flatMap fun l=>(List.range n).map fun a=>a::l
theorem DB {n:Nat} (l:List Nat) (hx:∀ x∈l,x < n):l∈HE n l.length:=by
 induction l with
 | nil=>exact .head _
 | cons a l ih=>exact List.mem_flatMap.mpr ⟨l,ih fun x m=>hx x (.tail _ m),bo.mpr ⟨a,List.mem_range.mpr (hx a (.head _)),rfl⟩⟩
theorem IS:([2,3,4].all fun n=>(HE n n).all fun r=>!(decide r.Nodup)||Pw n (fun i=>r.getD i 0))=true:=by decide +kernel
noncomputable def iw (ps:List (Int×Int)) (p:Int×Int):Nat:=ps.countP fun q=>dc q p
theorem wn {f g:Int×Int→Bool} {q:Int×Int} (hfg:∀ q,f q=true→g q=true) (hq:q∈ps) (h1:f q=false) (h2:g q=true):ps.countP f < ps.countP g:=by
 rw [List.countP_eq_countP_filter_add ps g f,List.countP_filter]
 exact eG (List.countP_mono_left fun x _ h=>by rw [hfg x h,h];rfl) (Nat.lt_add_of_pos_right (List.countP_pos_iff.mpr ⟨q,b8.mpr ⟨hq,by rw [h1];rfl⟩,h2⟩))
theorem pV {q:Int×Int} (hp:p∈ps) (h:dc p q=true):iw ps p < iw ps q:=
 wn (fun x hx=>nB hx h) hp (u3 p) h
theorem E8 {q:Int×Int} (hp:p∈ps) (hq:q∈ps):iw ps p < iw ps q↔dc p q=true:=
 ⟨fun h=>Classical.byContradiction fun e=>by
  by_cases hpq:p=q
  ·rw [hpq] at h;exact f7 _ h
  ·exact Nat.lt_asymm h (pV hq ((u5 hpq).resolve_left e)),pV hp⟩
theorem yZ (hp:p∈ps):iw ps p < ps.length:=
 gI (wn (g:=fun _=>true) (fun _ _=>rfl) hp (u3 p) rfl) List.countP_le_length
theorem uV {α:Type} (lt:Nat→Nat→Bool) (n i j:Nat) (k:Bool→KasT α):GH lt n (.ask i j k)=if i < n∧j < n then GH lt n (k (lt i j)) else none:=rfl
theorem Ch {α:Type} {lt lt':Nat→Nat→Bool} {n:Nat} (h:∀ i j,i < n→j < n→lt i j=lt' i j) (t:KasT α):GH lt n t=GH lt' n t:=by
 induction t with
 | ret a=>rfl
 | ask i j k ih=>
  rw [uV,uV,ih]
  by_cases hij:i < n∧j < n
  ·rw [h i j hij.1 hij.2]
  ·rw [av hij,av hij]
theorem AL {n:Nat} (h2:2≤n) (h4:n≤4):n∈[2,3,4]:=by
 rcases Nat.lt_or_eq_of_le h4 with h | h
 ·rcases Nat.lt_or_eq_of_le (Nat.le_of_lt_succ h) with h | h
  ·rw [Nat.le_antisymm (Nat.le_of_lt_succ h) h2];exact .head _
  ·rw [h];exact .tail _ (.head _)
 ·rw [h];exact .tail _ (.tail _ (.head _))
theorem AH (ps:List (Int×Int)):(List.range ps.length).map (fun i=>ps.getD i (0,0))=ps:=by
 refine List.ext_getElem (by rw [ba,eh]) fun i h1 h2=>?_
 rw [List.getElem_map,List.getElem_range,hQ,cq h2];rfl
theorem w4 (hn:ps.Nodup):(ps.map (iw ps)).Nodup:=
 List.pairwise_map.mpr (hn.imp_of_mem fun {a b} ha hb hab e=>(u5 hab).elim (fun h=>Nat.ne_of_lt (pV ha h) e) fun h=>Nat.ne_of_lt (pV hb h) e.symm)
theorem mZ {i:Nat} (hi:i < ps.length):ps.getD i (0,0)∈ps∧(ps.map (iw ps)).getD i 0=iw ps (ps.getD i (0,0)):=by
 rw [hQ,hQ,dL,cq hi]
 exact ⟨List.getElem_mem hi,rfl⟩
theorem xA {i j:Nat} (hi:i < ps.length) (hj:j < ps.length):(ps.map (iw ps)).getD i 0 < (ps.map (iw ps)).getD j 0↔dc (ps.getD i (0,0)) (ps.getD j (0,0))=true:=by
 rw [(mZ hi).2,(mZ hj).2];exact E8 (mZ hi).1 (mZ hj).1
theorem A4 (h2:2≤ps.length) (h4:ps.length≤4) (hn:ps.Nodup) :
  ∃ p,GH (fun i j=>dc (ps.getD i (0,0)) (ps.getD j (0,0))) ps.length (kas_sort ps.length)=some p∧p.size=ps.length∧(∀ i∈p.toList,i < ps.length)∧p.toList.map (fun i=>ps.getD i (0,0))=bh ps:=by
 have hm:ps.map (iw ps)∈HE ps.length ps.length:=by
  have:=DB (n:=ps.length) (ps.map (iw ps)) fun x hx=>by
   obtain ⟨p,hp,rfl⟩:=bo.mp hx
   exact yZ hp
  rw [ba] at this;exact this
 have hc:=aY.mp (aY.mp IS ps.length (AL h2 h4)) _ hm
 rw [br (w4 hn)] at hc
 replace hc:Pw ps.length (fun i=>(ps.map (iw ps)).getD i 0)=true:=hc
 unfold Pw at hc
 rw [Ch (lt':=fun i j=>dc (ps.getD i (0,0)) (ps.getD j (0,0))) (fun i j hi hj=>Bool.eq_iff_iff.mpr (decide_eq_true_iff.trans (xA hi hj)))] at hc
 induction e:GH (fun i j=>dc (ps.getD i (0,0)) (ps.getD j (0,0))) ps.length (kas_sort ps.length) with
 | none=>rw [e] at hc;exact bt hc
 | some p=>
  rw [e] at hc
  obtain ⟨hp,hr⟩:=cz.mp (show (p.toList.isPerm (List.range ps.length)&&_)=true from hc)
  have hp:=List.isPerm_iff.mp hp
  have hb:∀ i∈p.toList,i < ps.length:=fun i hi=>List.mem_range.mp (hp.mem_iff.mp hi)
  have hw:=List.pairwise_map.mp (bI hr▸List.pairwise_lt_range)
  exact ⟨p,rfl,by rw [← eZ,hp.length_eq,eh],hb,zS (List.pairwise_map.mpr (hw.imp_of_mem fun ha hb' h=>(xA (hb _ ha) (hb _ hb')).mp h)) (ie hn)
   (((hp.map _).trans (.of_eq (AH ps))).trans (bH ps).symm)⟩
end
end Nz
namespace Nz
open PySem PyProof.Rows PySem.W
variable {xs:List Str} {n k i ep j:Nat} {Q E:Value→Shared→Prop} {a:Addr} {vs vals:List Value} {P:Prop} {α β:Type} {s s':Shared} {M:Model} {v:Value} {A:Around} {es args:List Expr} {kvs:List (bL×T)} {G:List bY} {W:Wd} {env:PySem.Env} {as:List Addr} {x y:Str} {pos p ap px:Pos} {F F':Addr→Prop} {ρ:Env} {op:CmpOp} {o:ji} {ds:sE} {value tgt elt iter:Expr} {fs:List (Nat×T)} {sc scope:PySem.Scope} {ns:List (Str×NameKind)} {is params:List Nm} {K:T→Env→Prop} {use:Option (Value→Sem Unit)} {gs:List Comprehension} {ks:List Keyword} {b:List Stmt} {m:Str→Option Value}
section
theorem JX {sh:Bool} {x:T} {p:Int×Int} (e:pk sh x=some p):x=gX sh p:=
 dy e fun q h1 e=>dy e fun a h2 e=>eU e fun b h3 z=>by
  rw [rh h1,cB h3,z]
  induction sh with
  | false=>rw [cB h2];rfl
  | true=>exact dy h2 fun t h4 h5=>dy h4 fun l h6 h7=>by rw [qS h6,z8 h7,cB h5];rfl
theorem zZ {sh:Bool} {xs:List T}:∀ {ps:List (Int×Int)},NS sh xs=some ps→xs=ps.map (gX sh):=by
 induction xs with
 | nil=>intro ps e;rw [← az e];rfl
 | cons x xs ih=>intro ps e;exact dy e fun p hp e=>eU e fun ps' hps z=>by rw [z,JX hp,ih hps];rfl
section
variable {W:Wd} {F:Addr→Prop} {s:Shared} {A:Around} {E:Value→Shared→Prop}
theorem Iu {p q:Addr} {a c:Int} {t u:Tok} {Q:Bool→Shared→Prop} (hu:A.units < cLine) (gp:s.heap.get? p=some (seqObj "tuple" #[.int a t] n)) (gq:s.heap.get? q=some (seqObj "tuple" #[.int c u] k)) (hne:a≠c)
  (h:Q (decide (a < c)) s):wpAny (model W.prog W.w) A (compareOp .Lt (.ref p) (.ref q)) (PySem.W.BoolBack Q) E s:=by
 have tp:s.TypeIs (.ref p) "tuple":=⟨_,gp,rfl⟩
 have tq:s.TypeIs (.ref q) "tuple":=⟨_,gq,rfl⟩
 show wpAny _ _ (richCompare .Lt (.ref p) (.ref q)) _ _ s
 refine wpAny_richCompare_same_room tp tq PySem.F.slot_tuple_lt (eP PySem.F.slot_tuple_lt tp PySem.F.entry_tuple_lt ?_ (PySem.F.args_tuple_lt_2 _ _)) hu
 show wpAny _ _ (do
  if !(← isInstance (.ref q) (.type "tuple")) then return ← ret .notImplemented
  let xs ← Builtin.Tuple.tupleItemsOf (.ref p)
  let ys ← Builtin.Tuple.tupleItemsOf (.ref q)
  for (x,y) in xs.toList.zip ys.toList do
   if !(← eqBool x y) then
    rule "tuple.compare.by-the-first-pair-that-differs";return ← ret (← richCompare .Lt x y)
  ret (Builtin.Tuple.tupleCompareSizes .Lt xs.size ys.size)) _ _ s
 refine ac (wpAny_isInstance (T:="tuple") (b:=true) tq (by rw [isSubtype_type];kernel_rfl) ?_)
 rw [av (by simp)]
 refine ac (tupleItemsOf_ ⟨_,gp,rfl,_,rfl⟩ (ac (tupleItemsOf_ ⟨_,gq,rfl,_,rfl⟩ ?_)))
 refine ac ?_
 show wpAny _ _ (forIn [(Value.int a t,Value.int c u)] _ _) _ _ s
 rw [List.forIn_cons]
 refine ac (ac (wpAny_eqBool_int ?_))
 rw [show (a==c)=false by simpa using hne]
 simp only [Bool.not_false,↓reduceIte]
 refine ac (wpAny_rule (ac (P.lt_int ?_)))
 exact ac (al (al (al (al ⟨_,rfl,by simp,h⟩))))
theorem FW {a b d:Int}:dc (a,b) (a,d)=decide (b < d):=by simp [dc]
theorem EB {a b c d:Int} (hne:a≠c):dc (a,b) (c,d)=decide (a < c):=by simp [dc,hne]
theorem qu {sh:Bool} {b d:Int} {t u:Tok} {Q:Bool→Shared→Prop} (h:Q (decide (b < d)) s):KatLex W.prog W.w A (!sh) (decide (2 < 2)) Q [(Value.int b t,Value.int d u)] (n+1) s:=by
 refine kat_cons (wpAny_eqBool_int (kat_go (fun e=>kat_yes (kat_nil ?_)) fun e=>kat_no ?_))
 ·have:b=d:=bp.mp e
  subst this
  rw [eK (Int.lt_irrefl b)] at h;exact h
 ·rw [show ((!sh)&&(n+1==0))=false from Bool.and_false _]
  exact kat_one _ _ (P.lt_int h)
inductive Jr (h:Heap) (a b:Int):Value→Prop where
 | mk (ad:Addr) (n:Nat) (t u:Tok) (g:h.get? ad=some (seqObj "tuple" #[.int a t,.int b u] n)):Jr h a b (.ref ad)
theorem JB {h:Heap} {a b:Int} {x:Value} (r:VR W F h (.tup [.int a,.int b]) x):Jr h a b x:=by
 obtain ⟨vs,ad,n,rfl,_,g,_,r⟩:=r.tup_inv
 obtain ⟨v,w,r1,r2⟩:=r.two
 obtain ⟨t,rfl⟩:=r1.q.int_inv
 obtain ⟨u,rfl⟩:=r2.q.int_inv
 exact ⟨ad,n,t,u,g⟩
inductive I9 (W:Wd) (h:Heap) (a b:Int):Value→Prop where
 | mk (ad p:Addr) (n m:Nat) (t u:Tok) (g:h.get? ad=some (seqObj "tuple" #[.ref p,.int b u] n)) (gp:h.get? p=some (seqObj "tuple" #[.int a t] m)) (r:VR W ef h (.tup [.int a]) (.ref p)):I9 W h a b (.ref ad)
theorem Jn {h:Heap} {a b:Int} {x:Value} (r:VR W F h (.tup [.tup [.int a],.int b]) x):I9 W h a b x:=by
 obtain ⟨vs,ad,n,rfl,_,g,_,r⟩:=r.tup_inv
 obtain ⟨v,w,r1,r2⟩:=r.two
 obtain ⟨u,rfl⟩:=r2.q.int_inv
 obtain ⟨ws,p,m,rfl,_,gp,_,r3⟩:=id r1.tup_inv
 obtain ⟨z,r4⟩:=r3.one
 obtain ⟨t,rfl⟩:=r4.q.int_inv
 exact ⟨ad,p,n,m,t,u,g,gp,r1.up⟩
theorem Ih {sh:Bool} {p q:Int×Int} {x y:Value} {Q:Bool→Shared→Prop} (hu:A.units+20 < cLine) (rx:VR W F s.heap (gX sh p) x) (ry:VR W F s.heap (gX sh q) y) (h:Q (dc p q) s) :
  wpAny (model W.prog W.w) A (keyLt' (tuples' (!sh)) x y) Q E s:=by
 obtain ⟨a,b⟩:=p
 obtain ⟨c,d⟩:=q
 induction sh with
 | false=>
  obtain ⟨ad,n,t1,t2,g⟩:=JB (a:=a) (b:=b) rx
  obtain ⟨ad',n',u1,u2,g'⟩:=JB (a:=c) (b:=d) ry
  refine kat_lt g rfl g' rfl (kat_cons (wpAny_eqBool_int (kat_go (fun e=>kat_yes ?_) fun e=>kat_no ?_)))
  ·have:a=c:=bp.mp e
   subst this
   exact qu (FW▸h)
  ·exact oneLt_int (EB (eF.mp e)▸h)
 | true=>
  obtain ⟨ad,p,n,m,t1,t2,g,gp,r⟩:=Jn (a:=a) (b:=b) rx
  obtain ⟨ad',q,n',m',u1,u2,g',gq,r'⟩:=Jn (a:=c) (b:=d) ry
  have he:AA (.tup [.int a]) (.tup [.int c])=some (decide (a=c)&&true):=rfl
  rw [Bool.and_true] at he
  refine kat_lt g rfl g' rfl (kat_cons (Fz he r r' (eG (Nat.add_le_add_left (show depth (.tup [.int a])≤20 from show 1≤20 by decide) _) hu) W.prog W.w _ _ (kat_go (fun e=>kat_yes ?_) fun e=>kat_no ?_)))
  ·have:a=c:=bI e
   subst this
   exact qu (FW▸h)
  ·have hne:a≠c:=of_decide_eq_false e
   exact kat_one _ _ (Iu (A:=A) (E:=fun _ _=>False) (eG (Nat.le_add_right _ _) hu) gp gq hne (EB hne▸h))
end
end
section
theorem C6 {ks ns:List Int} (hn:ks.Nodup) (hp:ns.Perm ks) (hs:ns.Pairwise (·≤·)):ns=canon ks:=by
 refine bV ?_ (aJ ks) fun k=>by rw [aN];exact hp.mem_iff
 have hn':ns.Nodup:=hp.nodup_iff.mpr hn
 exact (hs.and hn').imp fun {a b} h=>by have:=h.1;have:=h.2;lia
section
variable {W:Wd} {F:Addr→Prop} {s:Shared} {A:Around} {E:Value→Shared→Prop}
noncomputable def w0 (W:Wd) (F:Addr→Prop) (a:Addr) (ys:List T) (s:Shared) (P:PySem.Fin→Shared→Prop):Prop:=
 ∀ h' out n,(∀ b o,b≠a→s.heap.get? b=some o→h'.get? b=some o)→h'.get? a=some (seqObj "list" out.toArray n)→bR W F h' ys out→P (.done (.ret .none)) { s with heap:=h' }
theorem F9 {xs:List T} {P:PySem.Fin→Shared→Prop} (ho:s.heap.get? a=some (seqObj "list" vs.toArray n)) (hF:¬ F a) (r:bR W F s.heap xs vs) (h1:xs.length≤1) (h:w0 W F a xs s P) :
  wpAny (model W.prog W.w) A (Builtin.«list.sort» ⟨[.ref a],[]⟩) P E s:=by
 have hl:=r.length
 rw [list_sort_plain]
 have ha:a < s.heap.objs.size:=ei ho
 refine ac (listItems_at ho rfl ?_)
 refine ac (listUpdate_at ho rfl ?_ (by rw [cP,sizeLine_eq];lia) (cr _))
 obtain ⟨e1,ho1⟩:∃ e1,(s.heap.update a (Obj.mapSeq fun _=>#[])).get? a=some (seqObj "list" #[] e1):=⟨_,get?_update_seq ho (fun _=>#[])⟩
 refine ac (seqEpoch_at ho1 rfl ?_)
 refine ac (wpAny_newTuple ?_ (by show vs.length≤_;rw [sizeLine_eq];lia))
 refine ac (wpAny_newList ?_ (cr _))
 refine b4 ?_
 have ho6:(((s.heap.update a (Obj.mapSeq fun _=>#[])).push (seqObj "tuple" vs.toArray 0)).push (seqObj "list" #[] 0)).get? a=some (seqObj "list" #[] e1):=bU _ (bU _ ho1)
 show wpAny (model W.prog W.w) A _ P E { s with heap:=((s.heap.update a (Obj.mapSeq fun _=>#[])).push (seqObj "tuple" vs.toArray 0)).push (seqObj "list" #[] 0) }
 dsimp only
 have h2:vs.toArray.size < 2:=by rw [cP];lia
 rw [au h2,au h2]
 refine ac (al ?_)
 rw [StateT.run_pure]
 refine ac (al ?_)
 dsimp only
 have e5:(arrOf (SortSt.mk' general' (vs.toArray.zip vs.toArray) #[] 7 none)).map (·.2)=vs.toArray:=by
  show (vs.toArray.zip vs.toArray).map (·.2)=vs.toArray
  apply Array.toList_inj.mp
  rw [Array.toList_map,Array.toList_zip]
  exact List.map_snd_zip (Nat.le_refl _)
 rw [e5]
 refine ac (seqEpoch_at ho6 rfl ?_)
 refine ac (listUpdate_at ho6 rfl ?_ (cr _) (by rw [cP,sizeLine_eq];lia))
 simp only [bne_self_eq_false,Bool.false_eq_true,if_false]
 have k:∀ b o,b≠a→s.heap.get? b=some o→((((s.heap.update a (Obj.mapSeq fun _=>#[])).push (seqObj "tuple" vs.toArray 0)).push (seqObj "list" #[] 0)).update a (Obj.mapSeq fun _=>vs.toArray)).get? b=some o:=fun b o hb e=>
  (iu _ _ (Ne.symm hb)).trans (bU _ (bU _ ((iu _ _ (Ne.symm hb)).trans e)))
 exact al (h _ vs _ k (get?_update_seq ho6 fun _=>vs.toArray) (r.mono (fun _ f=>f) fun b o f e=>k b o (fun q=>hF (q▸f)) e))
theorem Bt {xs:List T} {ks:List Int} {P:PySem.Fin→Shared→Prop} (ho:s.heap.get? a=some (seqObj "list" vs.toArray n)) (r:bR W F s.heap xs vs) (hk:c6 xs=some ks) (h60:ks.length < 60) (hn:ks.Nodup)
  (h:w0 W F a ((canon ks).map .int) s P):wpAny (model W.prog W.w) A (Builtin.«list.sort» ⟨[.ref a],[]⟩) P E s:=by
 have hl:=r.length
 have hlk:=fA hk
 refine list_sort_tree ho (wr hk r) (by lia) fun out ns' h1 h2 h3=>?_
 rw [C6 hn h2 h3] at h1
 obtain ⟨e1,ho1⟩:∃ e1,(s.heap.update a (Obj.mapSeq fun _=>#[])).get? a=some (seqObj "list" #[] e1):=⟨_,get?_update_seq ho (fun _=>#[])⟩
 have ho6:(((s.heap.update a (Obj.mapSeq fun _=>#[])).push (seqObj "tuple" vs.toArray 0)).push (seqObj "list" #[] 0)).get? a=some (seqObj "list" #[] e1):=bU _ (bU _ ho1)
 obtain ⟨m,hg⟩:∃ m,(sortedHeap s.heap a vs out).get? a=some (seqObj "list" out.toList.toArray m):=⟨_,by rw [Array.toArray_toList];exact get?_update_seq ho6 fun _=>out⟩
 exact h _ out.toList m (fun b o hb e=>(iu _ _ (Ne.symm hb)).trans (bU _ (bU _ ((iu _ _ (Ne.symm hb)).trans e)))) hg (wt h1)
theorem Eu {lt:Nat→Nat→Bool} {κ:SortKind} {Q:α→Shared→Prop}
  (hask:∀ i j C,i < n→j < n→C (lt i j) s→kas_ask W.prog W.w A κ vs i j C s):∀ (t:KasT α) (a:α),GH lt n t=some a→Q a s→t.kasWp (kas_ask W.prog W.w A κ vs) Q s
 | .ret b,a,e,q=>by obtain rfl:=az e;exact q
 | .ask i j k,a,e,q=>by
  rw [uV] at e
  by_cases hij:i < n∧j < n
  ·rw [au hij] at e;exact hask i j _ hij.1 hij.2 (Eu hask _ a e q)
  ·rw [av hij] at e;exact nn e
theorem bR.getD {h:Heap} {xs:List T} (r:bR W F h xs vs) (hi:i < xs.length) (d:T):VR W F h (xs.getD i d) (vs.getD i Value.none):=by
 obtain ⟨v,h1,h2⟩:=r.get (cq hi)
 rw [hQ,hQ,h1,cq hi]
 exact h2
theorem bR.pick {h:Heap} {xs:List T} (r:bR W F h xs vs) (d:T):∀ {l:List Nat},(∀ i∈l,i < xs.length)→bR W F h (l.map fun i=>xs.getD i d) (l.map fun i=>vs.getD i Value.none)
 | [],_=>.nil
 | i::l,hb=>.cons (r.getD (hb i (by simp)) d) (r.pick d fun j hj=>hb j (List.mem_cons_of_mem _ hj))
noncomputable def C3 (sh:Bool) (p:Int×Int):T:=match sh with | false=>.int p.1 | true=>.tup [.int p.1]
theorem Cm {sh:Bool} {h:Heap} {ps:List (Int×Int)}:∀ {vs:List Value},bR W F h (ps.map (gX sh)) vs→∃ fs,KatTups h vs fs∧bR W F h (ps.map (C3 sh)) fs:=by
 induction ps with
 | nil=>intro vs r;rw [r.inv0];exact ⟨[],KatTups.nil,.nil⟩
 | cons p ps ih=>
  intro vs r
  obtain ⟨v,vs,x,r2⟩:=bR.inv (t:=gX sh p) (ts:=ps.map (gX sh)) r
  obtain ⟨fs,k,rf⟩:=ih r2
  obtain ⟨us,ad,n,rfl,_,g,_,r⟩:=(show VR W F h (.tup [C3 sh p,.int p.2]) v by induction sh<;>exact x).tup_inv
  obtain ⟨v1,v2,a,b⟩:=r.two
  exact ⟨v1::fs,KatTups.cons g rfl rfl (by simp) k,.cons a rf⟩
theorem FT {sh:Bool} {h:Heap} {ps:List (Int×Int)} {fs:List Value} (r:bR W F h (ps.map (C3 sh)) fs):∀ v∈fs,Looks M h (typeOf v) (Value.type (if sh then "tuple" else "int")):=by
 intro v hv
 obtain ⟨i,hi,rfl⟩:=List.getElem_of_mem hv
 obtain ⟨t,ht,x⟩:=r.getv (cq hi)
 rw [dL] at ht
 obtain ⟨p,_,rfl⟩:=oK.mp ht
 induction sh with
 | false=>
  obtain ⟨u,hu⟩:=(show VR W F h (.int p.1) _ from x).q.int_inv
  rw [hu]
  exact .now
 | true=>
  obtain ⟨vs,ad,n,hv,_,g,_,_⟩:=(show VR W F h (.tup [.int p.1]) _ from x).tup_inv
  rw [hv]
  exact (Looks.ld g).andThen .now
theorem yE {sh:Bool} {ps:List (Int×Int)} {P:PySem.Fin→Shared→Prop} (hu:A.units+20 < cLine) (ho:s.heap.get? a=some (seqObj "list" vs.toArray n)) (hF:¬ F a) (r:bR W F s.heap (ps.map (gX sh)) vs)
  (h2:2≤ps.length) (h4:ps.length≤4) (hn:ps.Nodup) (h:w0 W F a ((bh ps).map (gX sh)) s P) :
  wpAny (model W.prog W.w) A (Builtin.«list.sort» ⟨[.ref a],[]⟩) P E s:=by
 have hl:ps.length=vs.length:=by have:=r.length;rwa [ba] at this
 have ha:a < s.heap.objs.size:=ei ho
 obtain ⟨e1,ho1⟩:∃ e1,(s.heap.update a (Obj.mapSeq fun _=>(#[]:Array Value))).get? a=some (seqObj "list" #[] e1):=⟨_,get?_update_seq ho fun _=>#[]⟩
 rw [list_sort_plain]
 refine ac (listItems_at ho rfl ?_)
 refine ac (listUpdate_at ho rfl ?_ (by rw [cP,sizeLine_eq];lia) (cr _))
 refine ac (seqEpoch_at ho1 rfl ?_)
 refine ac (wpAny_newTuple ?_ (by show vs.length≤_;rw [sizeLine_eq];lia))
 refine ac (wpAny_newList ?_ (cr _))
 refine b4 ?_
 show wpAny (model W.prog W.w) A _ P E { s with heap:=((s.heap.update a (Obj.mapSeq fun _=>(#[]:Array Value))).push (seqObj "tuple" vs.toArray 0)).push (seqObj "list" #[] 0) }
 dsimp only
 have hn2:¬ vs.toArray.size < 2:=by rw [cP];lia
 rw [av hn2,av hn2]
 have kk:∀ b o,b≠a→s.heap.get? b=some o→(((s.heap.update a (Obj.mapSeq fun _=>(#[]:Array Value))).push (seqObj "tuple" vs.toArray 0)).push (seqObj "list" #[] 0)).get? b=some o:=fun b o hb e=>
  bU _ (bU _ ((iu _ _ (Ne.symm hb)).trans e))
 have r3:bR W F (((s.heap.update a (Obj.mapSeq fun _=>(#[]:Array Value))).push (seqObj "tuple" vs.toArray 0)).push (seqObj "list" #[] 0)) (ps.map (gX sh)) vs:=r.mono (fun _ f=>f) fun b o f e=>kk b o (fun q=>hF (q▸f)) e
 have na:(((s.heap.update a (Obj.mapSeq fun _=>(#[]:Array Value))).push (seqObj "tuple" vs.toArray 0)).push (seqObj "list" #[] 0)).get? a=some (seqObj "list" #[] e1):=bU _ (bU _ ho1)
 obtain ⟨fs,kt,rf⟩:=Cm r3
 have hfl:0 < fs.length:=by have:=rf.length;rw [ba] at this;lia
 refine ac (kat_kind kt hfl (FT rf) (by induction sh<;>decide) ?_)
 have hkind:((Value.type (if sh then "tuple" else "int")) != Value.type "tuple")=!sh:=by induction sh<;>decide
 rw [hkind]
 obtain ⟨p,hgo,hps,hpb,hpc⟩:=A4 h2 h4 hn
 have gd:∀ i,i < ps.length→(ps.map (gX sh)).getD i .none=gX sh (ps.getD i (0,0)):=fun i hi=>by
  rw [hQ,hQ,dL,cq hi];rfl
 refine ac (ax (kat_run (E:=E) (ks:=vs) (vs:=vs) (G:=fun p' s'=>p'=p∧s'={ s with heap:=((s.heap.update a (Obj.mapSeq fun _=>(#[]:Array Value))).push (seqObj "tuple" vs.toArray 0)).push (seqObj "list" #[] 0) })
  (Q:=fun st' s'=>(arrOf st')=p.map (kas_item (vs.toArray.zip vs.toArray))∧failedOf st'=none∧s'={ s with heap:=((s.heap.update a (Obj.mapSeq fun _=>(#[]:Array Value))).push (seqObj "tuple" vs.toArray 0)).push (seqObj "list" #[] 0) })
  rfl (by lia) (by lia) (fun p' st' s' a1 a2 a3 a4=>⟨by rw [← a4.1];exact a2,a3,a4.2⟩) ?_) ?_ am)
 ·rw [← hl]
  refine Eu (n:=ps.length) (fun i j C hi hj hC=>?_) _ p hgo ⟨rfl,rfl⟩
  unfold kas_ask
  refine Ih (F:=F) (sh:=sh) (p:=ps.getD i (0,0)) (q:=ps.getD j (0,0)) hu ?_ ?_ hC
  ·rw [← gd i hi];exact r3.getD (by rw [ba];exact hi) _
  ·rw [← gd j hj];exact r3.getD (by rw [ba];exact hj) _
 rintro ⟨⟨⟩,st'⟩ s' ⟨har,hf,rfl⟩
 dsimp only
 have hout:=kat_snds (ks:=vs) (vs:=vs) rfl har
 have hsz:(List.toArray (p.toList.map fun i=>vs.getD i Value.none)).size=vs.length:=by rw [cP,ba,eZ,hps,hl]
 rw [hout]
 refine ac (seqEpoch_at na rfl ?_)
 refine ac (listUpdate_at na rfl ?_ (cr _) (aI (er hsz) (by rw [sizeLine_eq];lia)))
 rw [hf]
 simp only [bne_self_eq_false,Bool.false_eq_true,if_false]
 have hk2:∀ b o,b≠a→s.heap.get? b=some o→((((s.heap.update a (Obj.mapSeq fun _=>(#[]:Array Value))).push (seqObj "tuple" vs.toArray 0)).push (seqObj "list" #[] 0)).update a (Obj.mapSeq fun _=>List.toArray (p.toList.map fun i=>vs.getD i Value.none))).get? b=some o:=fun b o hb e=>
  (iu _ _ (Ne.symm hb)).trans (kk b o hb e)
 refine al (h _ _ _ hk2 (get?_update_seq na fun _=>List.toArray (p.toList.map fun i=>vs.getD i Value.none)) ?_)
 have hpk:=r.pick .none (l:=p.toList) fun i hi=>by rw [ba];exact hpb i hi
 have e6:(p.toList.map fun i=>(ps.map (gX sh)).getD i .none)=(bh ps).map (gX sh):=by
  rw [← hpc,cp]
  exact iv fun i hi=>gd i (hpb i hi)
 rw [e6] at hpk
 exact hpk.mono (fun _ f=>f) fun b o f e=>hk2 b o (fun q=>hF (q▸f)) e
set_option tactic.hygienic true in
theorem Hh {xs ys:List T} {P:PySem.Fin→Shared→Prop} (hu:A.units+20 < cLine) (e:iF xs=some ys) (ho:s.heap.get? a=some (seqObj "list" vs.toArray n)) (hF:¬ F a) (r:bR W F s.heap xs vs) (h:w0 W F a ys s P) :
  wpAny (model W.prog W.w) A (Builtin.«list.sort» ⟨[.ref a],[]⟩) P E s:=by
 have two:∀ {sh:Bool} {zs:List T},1 < xs.length→lj sh xs=some zs→w0 W F a zs s P→wpAny (model W.prog W.w) A (Builtin.«list.sort» ⟨[.ref a],[]⟩) P E s:=by
  intro sh zs hl e h
  unfold lj at e
  obtain ⟨ps,hps,e⟩:=kS.mp e
  split at e
  ·rename_i hc
   obtain rfl:=az e
   have hx:=zZ hps
   rw [hx] at r hl
   rw [ba] at hl
   exact yE hu ho hF r (by lia) hc.1 hc.2 h
  ·exact nn e
 unfold iF at e
 split at e
 ·rename_i h1
  obtain rfl:=az e
  exact F9 ho hF r h1 h
 ·rename_i h1
  split at e
  ·rename_i ks hk
   split at e
   ·rename_i hc
    obtain rfl:=az e
    exact Bt ho r hk hc.1 hc.2 h
   ·exact nn e
  ·split at e
   ·rename_i zs hz
    obtain rfl:=az e
    exact two (by lia) hz h
   ·exact two (by lia) e h
end
end
section
theorem iP:PySem.Slot "set_iterator" "__next__" "set_iterator.__next__":=
 .of (owner:="set_iterator") (n:="__next__") (by rw [typeLookup_type,builtinLookup_eq_fast];kernel_rfl) (by decide +kernel) (by decide +kernel) (by decide +kernel)
  (by first | exact .inl (by decide +kernel) | exact .inr (by decide +kernel)) (by rw [isSubtype_type];kernel_rfl)
theorem sM:entryFor table "set_iterator.__next__"=some Builtin.«set_iterator.__next__»:=entryFor_of_tree (by kernel_rfl)
theorem FQ:Manifest.owners.lookup (String.ofList ['r','o','t','a','r','e','t','i','_','t','e','s'].reverse)=some Manifest.sig_set_iterator:=by kernel_rfl
theorem uC (a:Value):argsOk "set_iterator.__next__" ⟨[a],[]⟩:=by
 unfold argsOk;rw [signature?_of (id:="set_iterator.__next__") (n:=['_','_','t','x','e','n','_','_']) (o:=['r','o','t','a','r','e','t','i','_','t','e','s']) (by kernel_rfl) FQ];kernel_rfl
theorem rU:entryFor table "set.__iter__"=some Builtin.«frozenset.__iter__»:=
 entryFor_alias (id':="frozenset.__iter__") (by kernel_rfl) rfl (by decide +kernel) (by kernel_rfl)
noncomputable abbrev wf (first:Value) (i:Nat) (s:Value) (n ep:Nat):Obj:=⟨.type "set_iterator",none,.fields #[first,rawInt i,s,rawInt n,rawInt ep],#[]⟩
inductive yR (W:Wd) (a:Addr) (es:Array (Int×Value)) (ep:Nat) (t:SetTable) (L:List (Int×Value)) (i slot:Nat):Prop
 | text (hb:W.w.params.followText "set-order"=true) (hL:L=(pickOrder (W.w.params.setOrder a ep) es).toList)
 | led (hb:W.w.params.followText "set-order"=false) (hp:(!t.plain&&decide (es.size > 1))=false) (hl:t.led=true) (hL:L=es.toList) (hs:slot=if i=0 then 0 else t.place.getD (i - 1) 0+1)
inductive A1 (W:Wd) (h:Heap) (I a:Addr) (es:Array (Int×Value)) (ep:Nat) (t:SetTable) (L:List (Int×Value)) (i:Nat):Value→Prop
 | tab (slot:Nat) (c:yR W a es ep t L i slot):A1 W h I a es ep t L i (rawInt slot)
 | tup (hb:W.w.params.followText "set-order"=false) (P:Addr) (places:List Nat) (n:Nat) (hPI:P≠I) (gP:h.get? P=some (seqObj "tuple" (places.map fun i:Nat=>rawInt i).toArray n)) (hpb:∀ p∈places,p < es.size) (hLL:L=places.map fun p=>es.getD p (0,.none)):A1 W h I a es ep t L i (.ref P)
inductive jL (W:Wd) (h:Heap) (I a:Addr) (es:Array (Int×Value)) (ep:Nat) (t:SetTable) (L:List (Int×Value)) (i:Nat):Prop
 | mk (first:Value) (g:h.get? I=some (wf first i (.ref a) es.size ep)) (r:A1 W h I a es ep t L i first)
section
variable {W:Wd} {A:Around} {E:Value→Shared→Prop} {s:Shared} {I a:Addr} {es:Array (Int×Value)} {ep:Nat} {t:SetTable} {xs:List Int} {L:List (Int×Value)} {i:Nat}
theorem A1.keep {h h':Heap} (x:A1 W h I a es ep t L i v) (k:∀ b n os,h.get? b=some (seqObj "tuple" os n)→h'.get? b=some (seqObj "tuple" os n)):A1 W h' I a es ep t L i v:=by
 induction x with
 | tab slot c=>exact .tab slot c
 | tup hb P places n hPI gP hpb hLL=>exact .tup hb P places n hPI (k _ _ _ gP) hpb hLL
theorem jL.keep {h h':Heap} (x:jL W h I a es ep t L i) (k:∀ b o,h.get? b=some o→h'.get? b=some o):jL W h' I a es ep t L i:=by
 obtain ⟨first,g,r⟩:=x
 exact ⟨first,k _ _ g,r.keep fun b n os=>k b _⟩
theorem jL.keep2 {h h':Heap} {S:Addr} (hS:S≠I) (hSP:∀ o,h.get? S=some o→o.cls≠.type "tuple") (x:jL W h I a es ep t L i) (k:∀ b o,b≠S→h.get? b=some o→h'.get? b=some o):jL W h' I a es ep t L i:=by
 obtain ⟨first,g,r⟩:=x
 exact ⟨first,k _ _ (Ne.symm hS) g,r.keep fun b n os e=>k b _ (fun c=>hSP _ (c▸e) rfl) e⟩
theorem F1 {p:Array Nat} (hr:p.toList.Pairwise (· < ·)) (hi:i≤p.size):SetTable.below p (if i=0 then 0 else p.getD (i - 1) 0+1)=i:=by
 refine (qF p _ hr).same ?_
 induction i with
 | zero=>exact ⟨hi,(fun _ h=>nomatch h),fun _ _=>cr _⟩
 | succ m=>
  rw [av (Nat.succ_ne_zero m),Nat.add_sub_cancel,iY hi]
  exact ⟨hi,zT hr hi (Nat.lt_succ_self _),(pU hr hi).2⟩
theorem ze {slot:Nat} {Q:Option (Value×Nat)→Shared→Prop} (ha:s.heap.get? a=some (cN es ep t)) (d:cV W es t xs) (hm:yR W a es ep t L i slot) (hi:i≤es.size)
  (h:∀ k,yR W a es ep t L (i+1) k→Q ((L[i]?).map fun e=>(e.2,k)) s):wpAny (model W.prog W.w) A (setNext a slot i ep) Q E s:=by
 unfold setNext
 refine ac (bw ha d ?_)
 unfold setsByText
 refine ac (ac (wpAny_askSetting (al ?_)))
 dsimp only
 induction hm with
 | text hb hL=>
  refine lI (show (model W.prog W.w).w.params.followText "set-order"=true from hb) (bD (kz _) (ac ?_))
  unfold setWalk
  refine ac (bw ha d ?_)
  unfold setsByText
  refine ac (ac (wpAny_askSetting (al ?_)))
  refine lI (show (model W.prog W.w).w.params.followText "set-order"=true from hb) ?_
  refine ac (wpAny_askSetting (al ?_))
  have:=h slot (.text hb hL)
  rw [hL,Array.getElem?_toList] at this
  exact al this
 | led hb hp hl hL hsl=>
  refine bD (show ¬ (model W.prog W.w).w.params.followText "set-order"=true from fun e=>bO (hb.symm.trans e)) ?_
  show wpAny _ _ (if (!t.plain&&decide (es.size > 1))=true then _ else _) _ _ s
  refine bD (by refine Eq.symm (hp)▸?_;exact bO) (ac ?_)
  show wpAny _ _ (if (!t.led&&!es.isEmpty)=true then unsupported "set:maker-not-led" else pure ()) _ _ s
  refine bD (by refine Eq.symm (hl)▸?_;exact bO) (al ?_)
  rw [hsl,F1 d.tab.rise (by refine Eq.symm (d.tab.size)▸?_;exact hi)]
  have:=h (t.place.getD i 0+1) (.led hb hp hl hL (av (Nat.succ_ne_zero i)).symm)
  refine al ?_
  rw [hL,Array.getElem?_toList] at this
  by_cases hlt:i < es.size
  ·have hpl:i < t.place.size:=by refine Eq.symm (d.tab.size)▸?_;exact hlt
   rw [iY hpl] at this
   rw [Array.getElem?_eq_getElem hlt] at this ⊢
   rw [Array.getElem?_eq_getElem hpl]
   exact this
  ·rw [Array.getElem?_eq_none (Nat.not_lt.mp hlt)] at this ⊢
   exact this
theorem Cu {first:Value} {m:Nat} (g:s.heap.get? I=some (wf first i v n m)):s.TypeIs (.ref I) "set_iterator":=⟨_,g,rfl⟩
theorem ky {h:Heap} {first:Value} {m:Nat} {x:Value} (g:h.get? I=some (wf first i v n m)) :
  (h.update I (Obj.mapFields (·.setIfInBounds k x))).get? I=some ⟨.type "set_iterator",none,.fields ((#[first,rawInt i,v,rawInt n,rawInt m]:Array Value).setIfInBounds k x),#[]⟩:=
 li _ g rfl
theorem IX (hh:A.handled=none) (ha:s.heap.get? a=some (cN es ep t)) (d:cV W es t xs) (it:jL W s.heap I a es ep t L i) (hL:L.length=es.size) (hi:i≤es.size) (hIa:a≠I) {Q:Option Value→Shared→Prop}
  (h1:∀ e h',L[i]? = some e→jL W h' I a es ep t L (i+1)→Heap.SameBut I s.heap h'→Q (some e.2) { s with heap:=h' })
  (h2:∀ h',L[i]? = none→(∀ b o,b≠I→s.heap.get? b=some o→h'.get? b=some o)→Q none { s with heap:=h' }):wpAny (model W.prog W.w) A (pyNext (.ref I)) Q E s:=by
 obtain ⟨first,g,hm⟩:=it
 have hT:=Cu g
 unfold pyNext
 refine ac (wpAny_attempt (wpAny_callSpecial?_slot (name:=Str.ofString "__next__") hT iP (eP iP hT sM ?_ (uC _))))
 refine ac (m:=slotArgs "__next__" 0 _) (al ?_)
 refine ac (wpAny_fieldsOf g rfl ?_)
 show wpAny _ _ (setEntries a >>= _) _ _ s
 refine ac (wpAny_setEntries_of ha rfl d.tab.fits ?_)
 refine bD (by rw [bne_self_eq_false];exact bO) ?_
 induction hm with
 | tab slot c=>
  show wpAny _ _ (setNext a slot i ep >>= _) _ _ s
  refine ac (ze ha d c hi fun k' hk'=>?_)
  induction hx:L[i]? with
  | some e=>
   show wpAny _ _ (setField (.ref I) 0 (rawInt k') >>= fun _=>setField (.ref I) 1 (rawInt ((i:Int)+1)) >>= fun _=>ret e.2) _ _ s
   refine ac (wpAny_setField g rfl (Nat.zero_lt_succ _) ?_)
   refine ac (wpAny_setField (ky g) rfl (Nat.succ_lt_succ (Nat.zero_lt_succ _)) ?_)
   exact al ⟨_,rfl,al (h1 e _ hx ⟨rawInt k',li _ (ky g) rfl,.tab k' hk'⟩ ((f6 ..).trans (f6 ..)))⟩
  | none=>
   show wpAny _ _ (setField (.ref I) 2 .none >>= fun _=>newExc (.type "StopIteration") [] >>= fun e=>raiseNew e) _ _ s
   exact ac (wpAny_setField g rfl (Nat.succ_lt_succ (Nat.succ_lt_succ (Nat.zero_lt_succ _))) (nv hh fun h' k=>h2 _ hx fun b o hb e=>k b o ((iu _ _ (Ne.symm hb)).trans e)))
 | tup hb P places n hPI gP hpb hLL=>
  refine ac ?_
  refine ac (wpAny_load gP (al ?_))
  dsimp only
  have hsz:places.length=es.size:=by rw [← hL,hLL,ba]
  have eL:L[i]? = (places[i]?).map fun p=>es.getD p (0,.none):=by rw [hLL,dL]
  simp only [Int.toNat_natCast,List.getElem?_toArray,dL]
  induction hx:places[i]? with
  | some p=>
   rw [hx] at eL
   have hp:p < es.size:=hpb p (List.mem_of_getElem? hx)
   have hg:es.getD p (0,.none)=es[p]:=iY hp _
   refine ac ?_
   show wpAny _ _ (setNextDrawn a (p:Int).toNat (ep:Int).toNat) _ _ s
   simp only [Int.toNat_natCast]
   unfold setNextDrawn
   refine ac (bw ha d ?_)
   dsimp only
   refine bD (kz _) ?_
   refine Eq.symm (Array.getElem?_eq_getElem hp)▸?_
   refine al ?_
   refine ac (wpAny_setField g rfl (by simp) ?_)
   refine al ⟨_,rfl,al ?_⟩
   have:=h1 (es.getD p (0,.none)) _ eL ⟨.ref P,ky (k:=1) (x:=rawInt ((i:Int)+1)) g,.tup hb P places n hPI ((iu _ _ (Ne.symm hPI)).trans gP) hpb hLL⟩ (f6 ..)
   rw [hg] at this
   exact this
  | none=>
   rw [hx] at eL
   show wpAny _ _ (setField (.ref I) 0 (rawInt 0) >>= fun _=>setField (.ref I) 2 .none >>= fun _=>newExc (.type "StopIteration") [] >>= fun e=>raiseNew e) _ _ s
   refine ac (wpAny_setField g rfl (by simp) ?_)
   refine ac (wpAny_setField (ky g) rfl (by simp) ?_)
   refine zO (show A.in1.handled=none from hh) fun h' e hx' hT'=>?_
   refine ac (wpAny_isInstance (T:="StopIteration") (b:=true) hT' isSubtype_stop ?_)
   exact al (h2 _ eL fun b o hb e=>hx' b o ((iu _ _ (Ne.symm hb)).trans ((iu _ _ (Ne.symm hb)).trans e)))
end
end
section
set_option backward.match.sparseCases true
theorem Dw {prog:Program} {w:World} {r:Addr} {Q:Bool→Shared→Prop} (hT:s.TypeIs (.ref r) "set") (h:Q false s):wpAny (model prog w) A (Builtin.List.listLengthHint (.ref r)) Q E s:=by
 unfold Builtin.List.listLengthHint
 refine ac (wpAny_specialOf hT PySem.F.slot_set_len.lookup ?_)
 generalize hid:("set.__len__":String)=id0
 wp_delta
 rw [show splitId id0=some ("set","__len__") from by subst hid;decide +kernel]
 subst hid
 refine ac (wpAny_isInstance (T:="set") (b:=true) hT ve ?_)
 refine wpAny_ite_split (fun hab=>absurd hab (by decide)) (fun _=>?_)
 refine wpAny_ite_split (fun _=>?_) (fun hab=>absurd (by decide +kernel) hab)
 refine ac (wpAny_typeOf hT ?_)
 exact al h
section
variable {W:Wd} {F:Addr→Prop} {A:Around} {E:Value→Shared→Prop} {s:Shared}
structure Fi (W:Wd) (s'0:Shared) (S I:Addr) (vs:List Value) (St:Nat→Shared→Prop):Prop where
 keep:∀ i s,St i s→(∀ b o,s'0.heap.get? b=some o→s.heap.get? b=some o)∧s.gens=s'0.gens∧s.os=s'0.os
 upd:∀ i s h' tk,St i s→Heap.SameBut S s.heap h'→(∃ xs n,h'.get? S=some (seqObj "list" xs n))→St i { s with heap:=h',toks:=tk }
 next:∀ i s (A:Around) (E:Value→Shared→Prop),A.handled=none→i≤vs.length→St i s→wpAny (model W.prog W.w) A (pyNext (.ref I)) (fun r s'=>(∀ o,s.heap.get? S=some o→s'.heap.get? S=some o)∧(match vs[i]? with
  | some v=>r=some v∧St (i+1) s'
  | none=>r=none∧(∀ b o,s'0.heap.get? b=some o→s'.heap.get? b=some o)∧s'.gens=s'0.gens∧s'.os=s'0.os)) E s
theorem tP {R:Result→Shared→Prop} {s'0:Shared} {S I:Addr} {St:Nat→Shared→Prop} {res:Value} (hA:A.handled=none) (K:Fi W s'0 S I vs St) (hz:vs.length≤SZ)
  (fin:∀ s' n,(∀ b o,s'0.heap.get? b=some o→s'.heap.get? b=some o)→s'.gens=s'0.gens→s'.os=s'0.os→s'.heap.get? S=some (seqObj "list" vs.toArray n)→R (.ok (.ret res)) s') :
  ∀ (k i:Nat) (s:Shared) (n:Nat),vs.length - i=k→i≤vs.length→St i s→s.heap.get? S=some (seqObj "list" (vs.take i).toArray n)→
   codeAny (model W.prog W.w) A (.builtin "list.extend.loop" ⟨[.ref S,.ref I,res],[]⟩) R s:=by
 have hSZ:SZ≤sizeLine:=gz
 intro k
 induction k with
 | zero=>
  intro i s n hk hi st g
  refine codeAny_builtin PySem.F.entry_extend_loop ?_
  rw [Around.under_plainId PySem.F.plain_extend_loop _]
  show wpAny _ A.in1 (pyNext (.ref I) >>= _) _ _ s
  refine ac (ax (K.next i s A.in1 _ hA hi st) (fun r s' z=>?_) am)
  obtain ⟨z1,z2⟩:=z
  rw [List.getElem?_eq_none (Nat.le_of_sub_eq_zero hk)] at z2
  obtain ⟨rfl,k1,k2,k3⟩:=z2
  have:=z1 _ g
  rw [List.take_of_length_le (Nat.le_of_sub_eq_zero hk)] at this
  exact al (fin s' n k1 k2 k3 this)
 | succ k ih=>
  intro i s n hk hi st g
  have hlt:i < vs.length:=Nat.lt_of_sub_eq_succ hk
  refine codeAny_builtin PySem.F.entry_extend_loop ?_
  rw [Around.under_plainId PySem.F.plain_extend_loop _]
  show wpAny _ A.in1 (pyNext (.ref I) >>= _) _ _ s
  refine ac (ax (K.next i s A.in1 _ hA hi st) (fun r s' z=>?_) am)
  obtain ⟨z1,z2⟩:=z
  rw [cq hlt] at z2
  obtain ⟨rfl,st'⟩:=z2
  have g':=z1 _ g
  show wpAny _ A.in1 (updateSeq S (·.push vs[i]) >>= _) _ _ _
  have hsz:(vs.take i).toArray.size=i:=by rw [cP,List.length_take];exact Nat.min_eq_left hi
  obtain ⟨m,hg⟩:∃ m,(s'.heap.update S (Obj.mapSeq (·.push vs[i]))).get? S=some (seqObj "list" (vs.take (i+1)).toArray m):=by
   have:=get?_update_seq g' (·.push vs[i])
   rw [show ((vs.take i).toArray.push vs[i])=(vs.take (i+1)).toArray by rw [List.push_toArray,List.take_add_one,cq hlt];rfl] at this
   exact ⟨_,this⟩
  refine ac (wpAny_updateSeq g' rfl (al ⟨plainId_quiet PySem.F.plain_extend_loop _,ih (i+1) { s' with heap:=s'.heap.update S (Obj.mapSeq (·.push vs[i])) } m (sub_succ hk) hlt (K.upd _ s' _ s'.toks st' (f6 ..) ⟨_,_,hg⟩) hg⟩) (by rw [hsz];exact aI hi (aI hz hSZ)) (by show ((vs.take i).toArray.push vs[i]).size≤_;rw [Array.size_push,hsz];exact aI hlt (aI hz (Nat.le_succ_of_le hSZ))))
theorem HG {R:Result→Shared→Prop} {T:String} {S r:Addr} {G:List Value→Prop} {res:Value} (hA:A.handled=none) (hz:∀ vs,G vs→vs.length≤SZ) (hSr:S≠r)
  (hT:s.TypeIs (.ref r) T) (hl:(Value.type T==Value.type "list")=false) (ht:(Value.type T==Value.type "tuple")=false)
  (hint:∀ (A:Around) (E:Value→Shared→Prop) (s:Shared) (Q:Bool→Shared→Prop),s.TypeIs (.ref r) T→Q false s→wpAny (model W.prog W.w) A (Builtin.List.listLengthHint (.ref r)) Q E s)
  (hS:s.heap.get? S=some (seqObj "list" #[] n)) (s'0:Shared)
  (hit:∀ (A:Around) (E:Value→Shared→Prop),A.handled=none→wpAny (model W.prog W.w) A (pyIter (.ref r)) (fun v s'=>∃ vs I St,G vs∧v=.ref I∧Fi W s'0 S I vs St∧St 0 s'∧s'.heap.get? S=some (seqObj "list" #[] n)∧s'.TypeIs (.ref r) T) E s)
  (fin:∀ vs,G vs→∀ s' n,(∀ b o,s'0.heap.get? b=some o→s'.heap.get? b=some o)→s'.gens=s'0.gens→s'.os=s'0.os→s'.heap.get? S=some (seqObj "list" vs.toArray n)→R (.ok (.ret res)) s') :
  wpAny (model W.prog W.w) A.in1 (Builtin.List.listExtendWith (.ref S) (.ref r) res)
   (fun fin s'=>match fin with | .done f=>R (.ok f) s' | .again c'=>c'.quiet=true∧codeAny (model W.prog W.w) A c' R s') (fun e s'=>R (.error e) s') s:=by
 unfold Builtin.List.listExtendWith
 refine ac (wpAny_typeOf hT ?_)
 have h1:Builtin.List.listSameRef (.ref S) (.ref r)=false:=by simp [Builtin.List.listSameRef,hSr]
 simp only [h1,hl,ht,Bool.or_false,Bool.false_eq_true,if_false]
 refine ac (ax (hit A.in1 _ hA) (fun v s₁ z=>?_) am)
 obtain ⟨vs,I,St,hG,rfl,K,st,g,hT'⟩:=z
 refine ac (b4 (hint _ _ _ _ hT' ?_))
 refine wpAny_ite_split (fun _=>?_) (fun _=>al ⟨plainId_quiet PySem.F.plain_extend_loop _,tP hA K (hz vs hG) (fin vs hG) vs.length 0 s₁ n (by lia) (cr _) st (by simpa using g)⟩)
 refine ac (wpAny_rule ?_)
 refine ac ?_
 show wpAny _ _ (updateSeq S (·.push .none) >>= fun _=>updateSeq S (·.pop)) _ _ _
 refine ac (wpAny_updateSeq g rfl ?_)
 obtain ⟨m'2,g'2⟩:∃ m,(s₁.heap.update S (Obj.mapSeq (·.push Value.none))).get? S=some (seqObj "list" #[Value.none] m):=⟨_,get?_update_seq g (·.push Value.none)⟩
 obtain ⟨m'3,g'3⟩:∃ m,((s₁.heap.update S (Obj.mapSeq (·.push Value.none))).update S (Obj.mapSeq (·.pop))).get? S=some (seqObj "list" #[] m):=⟨_,get?_update_seq g'2 (·.pop)⟩
 refine wpAny_updateSeq (hz:=by seq_fits) g'2 rfl ?_
 exact al ⟨plainId_quiet PySem.F.plain_extend_loop _,tP hA K (hz vs hG) (fin vs hG) vs.length 0 _ m'3 (by lia) (cr _) (K.upd 0 s₁ _ s₁.toks st ((f6 ..).trans (f6 ..)) ⟨_,_,g'3⟩) g'3⟩
noncomputable def Dy (W:Wd) (F:Addr→Prop) (s:Shared) (xs:List T) (vs:List Value) (s':Shared):Prop:=
 (∀ b o,s.heap.get? b=some o→s'.heap.get? b=some o)∧s'.gens=s.gens∧s'.os=s.os∧bR W F s'.heap xs vs
theorem AS {d:Addr} {es:List DictEntry} (g:s.heap.get? d=some (aL es ep)) (hs:(d==sysModules)=false)
  (h:∀ h',h'=s.heap.push ⟨.type "dict_keyiterator",none,.fields #[.ref d,rawInt 0,rawInt es.length,rawInt ep],#[]⟩→h'.IsKeyIter s.heap.objs.size d 0 es.length ep→Q (.ref s.heap.objs.size) { s with heap:=h' }):wpAny (model W.prog W.w) A (pyIter (.ref d)) Q E s:=by
 have hT:=aA g
 refine wpAny_pyIter_slot hT PySem.F.slot_dict_iter (eP PySem.F.slot_dict_iter hT PySem.F.entry_dict_iter ?_ (PySem.F.args_dict_iter_1 _))
 unfold Builtin.«dict.__iter__»
 refine ac ?_
 unfold Builtin.Dict.dictSlotNone
 refine ac (wpAny_notOrdered_dict hT ?_)
 show wpAny _ _ (pure (Value.ref d)) _ _ s
 refine al ?_
 show wpAny _ _ (Builtin.Dict.showsAll d >>= _) _ _ s
 unfold Builtin.Dict.showsAll
 rw [av (by rw [hs];exact bO)]
 refine ac (al (ac (fY g rfl (ac (wpAny_dictEpoch g rfl ?_)))))
 refine ac (gT (al ⟨_,rfl,"dict_keyiterator",_,⟨_,dH _ rfl,rfl⟩,PySem.F.slot_dict_keyiterator_next.lookup,?_⟩))
 have e:es.toArray.size=es.length:=cP ..
 rw [e]
 exact h _ rfl ⟨_,dH _ rfl,rfl,by simp [rawInt]⟩
theorem y7:plainId "list.__iadd__"=true:=by decide +kernel
theorem qT {T':String} {r:Addr} {G:List Value→Prop} (hA:A.handled=none) (hz:∀ vs,G vs→vs.length≤SZ)
  (hT:s.TypeIs (.ref r) T') (hl:(Value.type T'==Value.type "list")=false) (ht:(Value.type T'==Value.type "tuple")=false)
  (hint:∀ (A:Around) (E:Value→Shared→Prop) (s:Shared) (Q:Bool→Shared→Prop),s.TypeIs (.ref r) T'→Q false s→wpAny (model W.prog W.w) A (Builtin.List.listLengthHint (.ref r)) Q E s)
  (hit:∀ (A:Around) (E:Value→Shared→Prop),A.handled=none→wpAny (model W.prog W.w) A (pyIter (.ref r)) (fun v s'=>∃ vs I St,G vs∧v=.ref I∧Fi W s s.heap.objs.size I vs St∧St 0 s'∧s'.heap.get? s.heap.objs.size=some (seqObj "list" #[] 0)∧s'.TypeIs (.ref r) T') E { s with heap:=s.heap.push (seqObj "list" #[] 0) }) :
  wpAny (model W.prog W.w) A (collect (.ref r)) (fun vs s'=>G vs∧(∀ b o,s.heap.get? b=some o→s'.heap.get? b=some o)∧s'.gens=s.gens∧s'.os=s.os) E s:=by
 unfold collect
 refine ac (wpAny_runValue (codeAny_builtin entry_proto_collect' ?_))
 show wpAny _ _ (do again (.builtin "list.__iadd__" ⟨[← newList [],.ref r],[]⟩)) _ _ s
 refine ac (wpAny_newList (al ⟨Code.quiet_builtin _ (by decide +kernel),codeAny_builtin entry_list_iadd' ?_⟩))
 show wpAny _ _ (Builtin.List.listExtendWith (.ref s.heap.objs.size) (.ref r) (.ref s.heap.objs.size)) _ _ { s with heap:=s.heap.push (seqObj "list" #[] 0) }
 obtain ⟨o,ho,hc⟩:=id hT
 rw [Around.under_plainId y7 _]
 refine HG (R:=fun r s'=>match r with
  | .ok (.ret v)=>wpAny (model W.prog W.w) A (match v with
    | .ref a=>do
     let o ← load a
     match o.data with
     | .seq xs _=>pure xs.toList
     | _=>unsupported "internal:collect"
    | _=>unsupported "internal:collect") (fun vs s'=>G vs∧(∀ b o,s.heap.get? b=some o→s'.heap.get? b=some o)∧s'.gens=s.gens∧s'.os=s.os) E s'
  | .ok _=>False
  | .error e=>E e s') (s:={ s with heap:=s.heap.push (seqObj "list" #[] 0) }) (n:=0) hA hz (fun q=>f7 _ (q▸ei ho)) ⟨o,bU _ ho,hc⟩ hl ht hint (dH _ rfl) s hit fun vs hG s' n k e1 e2 g=>?_
 show wpAny (model W.prog W.w) A (do
   let o ← load s.heap.objs.size
   match o.data with
   | .seq xs _=>pure xs.toList
   | _=>unsupported "internal:collect") _ E s'
 refine ac (wpAny_load g ?_)
 exact al ⟨hG,k,e1,e2⟩
theorem cL.keys {h:Heap}:∀ {es:List DictEntry},cL W F h kvs es→bR W F h (kvs.map fun p=>cb p.1) (es.map (·.key)):=by
 induction kvs with
 | nil=>intro es r;rw [r.inv0];exact .nil
 | cons p kvs ih=>intro es r;obtain ⟨e,es,a,_,_,r2⟩:=cL.inv (k:=p.1) (t:=p.2) r;exact .cons a (ih r2)
theorem vc {d:Addr} {es:List DictEntry} (hA:A.handled=none) (g:s.heap.get? d=some (aL es ep)) (hs:(d==sysModules)=false) (r:cL W F s.heap kvs es) (hz:kvs.length≤SZ) :
  wpAny (model W.prog W.w) A (collect (.ref d)) (Dy W F s (kvs.map fun p=>cb p.1)) E s:=by
 have hlen:=r.length
 refine ax (qT (G:=fun vs=>vs=es.map (·.key)) hA (fun vs hv=>by rw [hv,ba];lia) (aA g) (by decide) (by decide) (fun A E s Q hT q=>kdl_hint_dict hT q) fun A E hA=>?_) (fun vs s' z=>by
  obtain ⟨rfl,k,e1,e2⟩:=z
  exact ⟨k,e1,e2,(r.mono (fun _ f=>f) fun a o _ e=>k a o e).keys⟩) am
 have hn:s.heap.get? s.heap.objs.size=none:=aS _
 refine AS (bU _ g) hs fun h' e it=>?_
 subst e
 have hI:(s.heap.push (seqObj "list" #[] 0)).objs.size≠s.heap.objs.size:=by rw [Heap.size_push];exact Nat.succ_ne_self _
 have hIn:s.heap.get? (s.heap.push (seqObj "list" #[] 0)).objs.size=none:=by
  induction q:s.heap.get? (s.heap.push (seqObj "list" #[] 0)).objs.size with
  | none=>rfl
  | some o=>have:=ei q;rw [Heap.size_push] at this;exact absurd this (Nat.not_lt.mpr (Nat.le_succ _))
 refine ⟨_,(s.heap.push (seqObj "list" #[] 0)).objs.size,fun i s'=>(∀ b o,s.heap.get? b=some o→s'.heap.get? b=some o)∧s'.gens=s.gens∧s'.os=s.os∧s'.heap.IsKeyIter (s.heap.push (seqObj "list" #[] 0)).objs.size d i es.length ep,rfl,rfl,?_,⟨fun b o e=>bU _ (bU _ e),rfl,rfl,it⟩,bU _ (dH _ rfl),aA (ep:=ep) (es:=es) (bU _ (bU _ g))⟩
 have neS:∀ {b:Addr} {o:Obj},s.heap.get? b=some o→b≠s.heap.objs.size:=fun e q=>by rw [q,hn] at e;exact nn e
 have neI:∀ {b:Addr} {o:Obj},s.heap.get? b=some o→b≠(s.heap.push (seqObj "list" #[] 0)).objs.size:=fun e q=>by rw [q,hIn] at e;exact nn e
 refine ⟨fun i s' st=>⟨st.1,st.2.1,st.2.2.1⟩,fun i s' h' tk st hb hlist=>⟨fun b o e=>(hb.2 b (neS e)).trans (st.1 b o e),st.2.1,st.2.2.1,?_⟩,fun i s' A E hA hi st=>?_⟩
 ·obtain ⟨o,ho,x⟩:=st.2.2.2
  exact ⟨o,(hb.2 _ hI).trans ho,x⟩
 ·obtain ⟨k,e1,e2,it⟩:=st
  rw [dL]
  refine uq hA it (k _ _ g) (fun e hx h' it' hb=>?_) fun hx h' hb=>?_
  ·rw [hx];exact ⟨fun o e=>(hb.2 _ (Ne.symm hI)).trans e,rfl,fun b o e=>(hb.2 b (neI e)).trans (k b o e),e1,e2,it'⟩
  ·rw [hx];exact ⟨fun o e=>hb _ o (Ne.symm hI) e,rfl,fun b o e=>hb b o (neI e) (k b o e),e1,e2⟩
theorem BY (es:Array (Int×Value)):(List.range es.size).map (fun p=>es.getD p (0,.none))=es.toList:=by
 refine List.ext_getElem (by rw [ba,eh,eZ]) fun i h1 h2=>?_
 rw [List.getElem_map,List.getElem_range,iY h2]
theorem DD {es:Array (Int×Value)} {t:SetTable} {xs:List Int} (g:s.heap.get? a=some (cN es ep t)) (d:cV W es t xs)
  (h:∀ I s' L,L.Perm es.toList→jL W s'.heap I a es ep t L 0→s.heap.get? I=none→(∀ b o,s.heap.get? b=some o→s'.heap.get? b=some o)→s'.gens=s.gens→s'.os=s.os→Q (.ref I) s'):wpAny (model W.prog W.w) A (pyIter (.ref a)) Q E s:=by
 have hT:s.TypeIs (.ref a) "set":=⟨_,g,rfl⟩
 refine wpAny_pyIter_slot hT PySem.F.slot_set_iter (eP PySem.F.slot_set_iter hT rU ?_ (PySem.F.args_set_iter_1 _))
 unfold Builtin.«frozenset.__iter__»
 refine ac (m:=Builtin.Frozenset.slot0 "__iter__" _) (al ?_)
 refine ac ?_
 unfold Builtin.Frozenset.sizeOf
 refine ac (wpAny_setEntries_of g rfl d.tab.fits (al ?_))
 have fin:∀ (first:Value) (s':Shared) (L:List (Int×Value)),L.Perm es.toList→s'.gens=s.gens→s'.os=s.os→(∀ b o,s.heap.get? b=some o→s'.heap.get? b=some o)→
   jL W (s'.heap.push (wf first 0 (.ref a) es.size ep)) s'.heap.objs.size a es ep t L 0→
   wpAny (model W.prog W.w) A.in1 (do
    let e ← setEpoch a
    let it ← newFields "set_iterator" [first,rawInt 0,.ref a,rawInt es.size,rawInt e]
    ret it) (fun fin s'=>∃ v,fin=Fin.done (Flow.ret v)∧∃ T' r,s'.TypeIs v T'∧typeLookup (Value.type T') "__next__"=pure (some r)∧Q v s') E s':=by
  intro first s' L hp e1 e2 k it
  refine ac (jx (k _ _ g) d ?_)
  refine ac ?_
  unfold newFields
  refine gT ?_ (by size_fits)
  refine al ⟨_,rfl,"set_iterator",_,⟨_,dH _ rfl,rfl⟩,iP.lookup,?_⟩
  refine h _ { s' with heap:=s'.heap.push (wf first 0 (.ref a) es.size ep) } L hp it ?_ (fun b o e=>bU _ (k b o e)) e1 e2
  induction q:s.heap.get? s'.heap.objs.size with
  | none=>rfl
  | some o=>exact absurd (ei (k _ _ q)) (f7 _)
 refine ac ?_
 unfold setDrawn
 refine ac (bw g d ?_)
 unfold setsByText
 refine ac (ac (wpAny_askSetting (al ?_)))
 dsimp only
 refine al ?_
 show wpAny _ _ (if (!W.w.params.followText "set-order"&&(!t.plain&&decide (es.size > 1)))=true then _ else _) _ _ s
 induction hb:W.w.params.followText "set-order" with
 | true=>
  refine bD bO (ac (al ?_))
  exact fin (rawInt 0) s _ (tW _ es) rfl rfl am ⟨rawInt 0,dH _ rfl,.tab 0 (.text hb rfl)⟩
 | false=>
  have hl:=d.led.resolve_left (by rw [hb];exact bO)
  induction hp:(!t.plain&&decide (es.size > 1)) with
  | false=>
   refine bD bO (ac (al ?_))
   exact fin (rawInt 0) s _ (.refl _) rfl rfl am ⟨rawInt 0,dH _ rfl,.tab 0 (.led hb hp hl rfl rfl)⟩
  | true=>
   refine lI rfl ?_
   refine ac (H0 es.size (List.range es.size) s _ (eh ..) fun places dr hpl=>?_)
   have hlen:places.length=es.size:=by rw [hpl.length_eq,eh]
   have hpb:∀ p∈places,p < es.size:=fun p hm=>List.mem_range.mp (hpl.mem_iff.mp hm)
   have few:=d.few
   refine ac (wpAny_newTuple ?_ (by rw [ba,hlen,sizeLine_eq];lia))
   refine fin (.ref s.heap.objs.size) { s with heap:=s.heap.push (seqObj "tuple" (places.map fun i:Nat=>rawInt i).toArray 0),drawn:=dr } (places.map fun p=>es.getD p (0,.none)) ?_ rfl rfl (fun _ _ e=>bU _ e)
    ⟨.ref s.heap.objs.size,dH _ rfl,.tup hb s.heap.objs.size places 0 ?_ (bU _ (dH _ rfl)) hpb rfl⟩
   ·refine (hpl.map _).trans ?_
    exact .of_eq (BY es)
   ·show s.heap.objs.size≠(s.heap.push _).objs.size
    rw [Heap.size_push];exact Nat.ne_of_lt (Nat.lt_succ_self _)
theorem zB {h:Heap}:∀ {L:List (Int×Value)},(∀ e∈L,∃ k u,e=(hashInt k,Value.int k u))→bR W F h ((L.map uW).map .int) (L.map (·.2))
 | [],_=>.nil
 | e::L,hh=>by
  obtain ⟨k,u,rfl⟩:=hh e (by simp)
  exact .cons (.int k u) (zB fun e he=>hh e (List.mem_cons_of_mem _ he))
theorem wi {xs:List Int} (hA:A.handled=none) (x:mI W s.heap a xs):wpAny (model W.prog W.w) A (collect (.ref a)) (fun vs s'=>∃ ks:List Int,ks.Perm xs∧Dy W F s (ks.map .int) vs s') E s:=by
 obtain ⟨es,ep,t,g,d,hx⟩:=x
 have hSZ:SZ=1048576:=rfl
 have few:=d.few
 refine ax (qT (G:=fun vs=>∃ L:List (Int×Value),L.Perm es.toList∧vs=L.map (·.2)) hA (fun vs ⟨L,hp,hv⟩=>by rw [hv,ba,hp.length_eq,eZ];lia) (T':="set") ⟨_,g,rfl⟩ (by decide) (by decide) (fun A E s Q hT q=>Dw hT q) fun A E hA=>?_) (fun vs s' z=>?_) am
 ·have hn:s.heap.get? s.heap.objs.size=none:=aS _
  refine DD (bU _ g) d fun I s' L hp it hI k e1 e2=>?_
  have kp:∀ b o,s.heap.get? b=some o→s'.heap.get? b=some o:=fun b o e=>k b o (bU _ e)
  have gS:s'.heap.get? s.heap.objs.size=some (seqObj "list" #[] 0):=k _ _ (dH _ rfl)
  have hIS:I≠s.heap.objs.size:=fun q=>by
   have:(s.heap.push (seqObj "list" #[] 0)).get? s.heap.objs.size=some (seqObj "list" #[] 0):=dH _ rfl
   rw [← q] at this
   rw [show (s.heap.push (seqObj "list" #[] 0)).get? I=none from hI] at this
   exact nn this
  have hIn:s.heap.get? I=none:=by
   induction q:s.heap.get? I with
   | none=>rfl
   | some o=>
    have:=bU (seqObj "list" #[] 0) q
    rw [show (s.heap.push (seqObj "list" #[] 0)).get? I=none from hI] at this
    exact nn this
  have neS:∀ {b:Addr} {o:Obj},s.heap.get? b=some o→b≠s.heap.objs.size:=fun e q=>by rw [q,hn] at e;exact nn e
  have neI:∀ {b:Addr} {o:Obj},s.heap.get? b=some o→b≠I:=fun e q=>by rw [q,hIn] at e;exact nn e
  have hL:L.length=es.size:=by rw [hp.length_eq,eZ]
  refine ⟨L.map (·.2),I,fun i s'=>(∀ b o,s.heap.get? b=some o→s'.heap.get? b=some o)∧s'.gens=s.gens∧s'.os=s.os∧jL W s'.heap I a es ep t L i∧(∃ o,s'.heap.get? s.heap.objs.size=some o∧o.cls=.type "list"),⟨L,hp,rfl⟩,rfl,?_,⟨kp,e1,e2,it,_,gS,rfl⟩,gS,⟨_,kp _ _ g,rfl⟩⟩
  refine ⟨fun i s' st=>⟨st.1,st.2.1,st.2.2.1⟩,fun i s' h' tk st hb hlist=>⟨fun b o e=>(hb.2 b (neS e)).trans (st.1 b o e),st.2.1,st.2.2.1,?_,?_⟩,fun i s' A E hA hi st=>?_⟩
  ·obtain ⟨o,go,hc⟩:=st.2.2.2.2
   exact st.2.2.2.1.keep2 (S:=s.heap.objs.size) (Ne.symm hIS) (fun o' e q=>by rw [go] at e;obtain rfl:=az e;rw [hc] at q;simp at q) fun b o hb' e=>(hb.2 b hb').trans e
  ·obtain ⟨ys,n,hy⟩:=hlist
   exact ⟨_,hy,rfl⟩
  ·obtain ⟨k,e1,e2,it,o,go,hc⟩:=st
   rw [ba] at hi
   rw [dL]
   refine IX hA (k _ _ g) d it hL (by lia) (neI g) (fun e h' hx it' hb=>?_) fun h' hx hb=>?_
   ·rw [hx]
    exact ⟨fun o e=>(hb.2 _ (Ne.symm hIS)).trans e,rfl,fun b o e=>(hb.2 b (neI e)).trans (k b o e),e1,e2,it',o,(hb.2 _ (Ne.symm hIS)).trans go,hc⟩
   ·rw [hx]
    exact ⟨fun o e=>hb _ o (Ne.symm hIS) e,rfl,fun b o e=>hb b o (neI e) (k b o e),e1,e2⟩
 ·obtain ⟨⟨L,hp,rfl⟩,k,e1,e2⟩:=z
  refine ⟨L.map uW,(hp.map _).trans d.perm,k,e1,e2,zB fun e he=>d.els e (hp.mem_iff.mp he)⟩
end
end
section
theorem gU:∀ {l:List Int},l.Nodup→(canon l).Perm l
 | [],_=>.refl _
 | a::l,h=>by
  obtain ⟨h1,h2⟩:=cO.mp h
  unfold canon
  exact (t4 fun m=>h1 (aN.mp m)).trans ((gU h2).cons a)
set_option tactic.hygienic true in
theorem nu {xs ys:List T} (e:iF xs=some ys):ys.length=xs.length:=by
 have two:∀ {sh:Bool} {zs:List T},lj sh xs=some zs→zs.length=xs.length:=by
  intro sh zs e
  unfold lj at e
  obtain ⟨ps,hps,e⟩:=kS.mp e
  split at e
  ·obtain rfl:=az e;rw [zZ hps,ba,ba];exact (bH ps).length_eq
  ·exact nn e
 unfold iF at e
 split at e
 ·obtain rfl:=az e;rfl
 ·split at e
  ·rename_i ks hk
   split at e
   ·rename_i hc
    obtain rfl:=az e
    rw [ba,(gU hc.2).length_eq];exact fA hk
   ·exact nn e
  ·split at e
   ·rename_i zs hz
    obtain rfl:=az e
    exact two hz
   ·exact two e
theorem hM (ks:List Int):c6 (ks.map .int)=some ks:=by
 induction ks with
 | nil=>rfl
 | cons k ks ih=>show (c6 (ks.map .int)).map (k::·)=_;rw [ih];rfl
theorem oJ {l:List Int} (nd:l.Nodup) (h:l.length < 60):iF (l.map T.int)=some ((canon l).map .int):=by
 unfold iF
 by_cases h1:(l.map T.int).length≤1
 ·rw [au h1]
  rw [ba] at h1
  rcases Jt h1 with e | ⟨a,e⟩<;>rw [e]<;>rfl
 ·rw [av h1,hM]
  exact au ⟨h,nd⟩
theorem i0 {ks xs:List Int} (hx:xs.Pairwise (· < ·)) (hp:ks.Perm xs) (hl:xs.length < 60):iF (ks.map .int)=some (xs.map .int):=by
 rw [← show canon ks=xs from bV (aJ ks) hx fun k=>aN.trans hp.mem_iff]
 exact oJ (hp.nodup_iff.mpr (hx.imp fun h e=>absurd (e▸h) (Int.lt_irrefl _))) (hp.length_eq▸hl)
section
variable {W:Wd} {F:Addr→Prop} {A:Around} {E:Value→Shared→Prop} {s:Shared}
theorem nQ {ys:List T} (hA:A.handled=none) (hu:A.units+100 < cLine) (hF:∀ a,F a→∃ o,s.heap.get? a=some o) (hy:ys.length≤SZ)
  (hc:∀ (A:Around) (E:Value→Shared→Prop),A.handled=none→wpAny (model W.prog W.w) A (collect v) (fun vs s'=>∃ xs,iF xs=some ys∧Dy W F s xs vs s') E s) :
  wpAny (model W.prog W.w) A (call (.builtin "sorted") [v]) (fy W F s (.list ys)) E s:=by
 refine Calls.call_function_entry kind_sorted plain_sorted entry_sorted (args_sorted1 _) ?_
 unfold Builtin.«sorted»
 refine ac (m:=checkCount "sorted" 1 1 _) (al ?_)
 refine ac (ax (hc A.in1 _ hA) (fun vs s₁ z=>?_) am)
 obtain ⟨xs,e,k,e1,e2,r⟩:=z
 refine ac (wpAny_newList ?_ ?_)
 ·have hn:s.heap.get? s₁.heap.objs.size=none:=by
   induction q:s.heap.get? s₁.heap.objs.size with
   | none=>rfl
   | some o=>exact absurd (ei (k _ _ q)) (f7 _)
  have hFn:¬ F s₁.heap.objs.size:=fun f=>by obtain ⟨o,q⟩:=hF _ f;rw [hn] at q;exact nn q
  have g:(s₁.heap.push (seqObj "list" vs.toArray 0)).get? s₁.heap.objs.size=some (seqObj "list" vs.toArray 0):=dH _ rfl
  refine ac (b4 (eP slot_list_sort ⟨_,g,rfl⟩ entry_list_sort (Hh (s:={ s₁ with heap:=s₁.heap.push (seqObj "list" vs.toArray 0) }) ?_ e g hFn (r.mono (fun _ f=>f) fun a o _ e=>bU _ e) fun h' out n k' g' r'=>⟨_,rfl,?_⟩) (args_list_sort _)))
  ·show A.units+1+1+20 < cLine;lia
  ·refine al ⟨_,rfl,?_⟩
   have kk:∀ b o,s.heap.get? b=some o→h'.get? b=some o:=fun b o e=>k' b o (fun q=>by rw [q,hn] at e;exact nn e) (bU _ (k b o e))
   exact ⟨fun c=>F c∨c∈[s₁.heap.objs.size],cf.add (as:=[s₁.heap.objs.size]) ⟨e1,e2,kk,fun _ f=>f,fun _=>.inl⟩ (fun c hc=>by rw [aV.mp hc];exact hn) (fun c hc=>by rw [aV.mp hc];exact ⟨_,g'⟩),
    .list (.inr (aV.mpr rfl)) g' hy (r'.mono (fun _=>.inl) fun _ _ _ e=>e)⟩
 ·have:=nu e
  have hl:=r.length
  have:=gz
  lia
theorem A3 {a t:T} (hA:A.handled=none) (hu:A.units+100 < cLine) (hF:∀ a,F a→∃ o,s.heap.get? a=some o) (x:dZ W F s.heap a v) (e:bi .sorted a=some t):wpAny (model W.prog W.w) A (call (.builtin "sorted") [v]) (fy W F s t) E s:=by
 have hSZ:SZ=1048576:=rfl
 refine cps fun GG kk=>?_
 cases a with
 | set xs=>
   refine kk (ifs e fun hl z=>?_)
   rw [z]
   obtain ⟨a,rfl,_,hS⟩:=x.set_inv
   have hx:xs.Pairwise (· < ·):=by obtain ⟨_,_,_,_,_,h⟩:=hS;exact h
   refine nQ hA hu hF (by rw [ba];lia) fun A E hA=>ax (wi (F:=F) hA hS) (fun vs s' z=>?_) am
   obtain ⟨ks,hp,c⟩:=z
   exact ⟨ks.map .int,i0 hx hp hl,c⟩
 | dict kvs=>
  refine kk (eU e fun ys hy z=>?_)
  rw [z]
  obtain ⟨es,d,ep,rfl,g,l,n,hs,r⟩:=x.dict_inv
  refine nQ hA hu hF ?_ fun A E hA=>ax (vc hA g hs r l) (fun vs s' z=>⟨_,hy,z⟩) am
  have:=nu hy
  rw [ba] at this;lia
 | list xs=>
  refine kk (eU e fun ys hy z=>?_)
  rw [z]
  obtain ⟨vs,l,n,rfl,g,hl,r⟩:=x.list_inv
  have hlen:=nu hy
  have hrl:=r.length
  have:=gz
  refine nQ hA hu hF (by lia) fun A E hA=>?_
  refine collect_list (pg g) ⟨xs,hy,fun b o e=>?_,rfl,rfl,r.mono (fun _ f=>f) fun b o _ e=>?_⟩ (by lia)
  all_goals exact (iu _ _ (Ne.symm (Nat.ne_of_lt (ei e)))).trans (bU _ e)
 | _=>exact nn e
end
end
section
structure sQ (n:Nat) (A:Around):Prop where
 handled:A.handled=none
 depth:A.depth+2*n≤900
 units:A.units+20*n≤9000
theorem sQ.u (h:sQ n A):A.units+100 < cLine:=by
 have:=h.units;have:cLine=9900:=rfl;lia
noncomputable def lh:Nat→Nat
 | 0=>0 | 1=>3 | 2=>5 | 3=>7 | 4=>9 | 5=>11 | 6=>14 | 7=>16 | 8=>18 | 9=>20 | 10=>22 | 11=>24 | 12=>26 | 13=>28 | _=>1000
structure JA (W:Wd) (c:Nat):Prop where
 cd:∃ cd,clsIn W.K (W.ca c)=some cd∧cd.hasDict=true
 ga:findIn W.K (.ref (W.ca c)) "__getattribute__"=some (some (.builtin "object.__getattribute__"))
 gat:findIn W.K (.ref (W.ca c)) "__getattr__"=some none
 sa:findIn W.K (.ref (W.ca c)) "__setattr__"=some (some (.builtin "object.__setattr__"))
 po:plainOver W.K (W.ca c)=true
 mks:makesIn W.K (W.ca c)=true
 ini:findIn W.K (.ref (W.ca c)) "__init__"=some (some (.ref (W.fa (lh c))))
 ift:typeIn W.K (.ref (W.fa (lh c)))=some (.type "function")
 cl:findIn W.K (.ref (W.ca c)) "__class__"=some (some (.builtin "object.__class__"))
 ob:mroIn W.K (W.ca c) (.type "object")=some true
 ne:(Value.ref (W.ca c)==.ref (W.ca 14))=false
 nsub:subIn W.K (.ref (W.ca c)) (.ref (W.ca 14))=some false
 fld:∀ a x,a∈fields c→bm a x→findIn W.K (.ref (W.ca c)) x=some none
 meth:∀ m f x,mt c m=some f→bm m x→findIn W.K (.ref (W.ca c)) x=some (some (.ref (W.fa f)))∧typeIn W.K (.ref (W.fa f))=some (.type "function")
structure K9 (W:Wd) (f:Nat) (p:Arguments) (b:List Stmt) (sc:Scope):Prop where
 obj:∃ o fd,W.h0.get? (W.fa f)=some o∧o.data=.func fd∧fd.params=p∧fd.body=.stmts b∧fd.scope=sc∧fd.closure=[]∧fd.globals=W.g∧fd.builtins=W.b∧W.h0.CodeRec fd.code fd.qualname∧
  ∃ r:Option (Array Value),bR W W.F0 W.h0 (match f0 f with | some d=>d.dflts | none=>[]) (r.getD #[]).toList∧(∀ (M:Model) (A:Around) (E:Value→Shared→Prop) (s:Shared) Q,(∀ b o,W.h0.get? b=some o→s.heap.get? b=some o)→Q r s→wpAny M A (seqItems? fd.defaults) Q E s)
structure gZ (W:Wd):Prop where
 ns:W.h0.Ns W.g W.mg
 bs:W.h0.Ns W.b W.mb
 lim:W.h0.NoLimit
 glob:∀ x t,tb.glob x=some t→∃ v,W.mg x=some v∧VR W W.F0 W.h0 t v
 live0:∀ a,W.F0 a→∃ o,W.h0.get? a=some o
 sys:∃ o,W.h0.get? sysModules=some o
 K:W.K.In W.h0
 cls:∀ c,c < 14→JA W c
 gsp:specialIn W.K (.builtin "object.__class__") "__get__"=some (some (.builtin "getset_descriptor.__get__"))
 tks:takesIn W.K (.builtin "object.__class__")=some true
 t14:typeIn W.K (.ref (W.ca 14))=some (.type "type")
 c14:∃ cd,clsIn W.K (W.ca 14)=some cd
 fn:∀ x i r,tb.fn x=some (i,r)→W.mg x=some (.ref (W.fa i))
 cn:∀ x c i,tb.cls x=some (c,i)→W.mg x=some (.ref (W.ca c))∧(c < 14→i=lh c)
 fo:∀ f,f < 79→∃ p b sc,W.src f=some (p,b,sc)∧K9 W f p b sc
 ci:∀ x c i,tb.cls x=some (c,i)→c < 15
 bn:∀ b:String,b∈["len","sorted","abs","all"]→W.mg (Str.ofString b)=none∧W.mb (Str.ofString b)=some (.builtin b)
 bt:∀ b:String,b∈["tuple","list","dict","set","int","range"]→W.mg (Str.ofString b)=none∧W.mb (Str.ofString b)=some (.type b)
 bi:W.mg "isinstance"=none∧W.mb "isinstance"=some (.builtin "isinstance")
structure dg (W:Wd) (sc:Scope) (env:PySem.Env) (G:List bY):Prop where
 kind:env.scope.kind=.function
 g:env.globals=W.g
 b:env.builtins=W.b
 loc:∀ x i,sc.names.lookup x=some .local→bm i x→env.kindOf x=some .local∧∃ e,first G i=some e∧e.pl=.loc env.locals x
 cel:∀ x i,sc.names.lookup x=some .cell→bm i x→env.kindOf x=some .cell∧∃ e c,first G i=some e∧e.pl=.cell c∧env.cells.lookup x=some c
 fre:∀ x i,sc.names.lookup x=some .free→bm i x→(env.kindOf x=some .cell∨env.kindOf x=some .free)∧∃ e c,first G i=some e∧e.pl=.cell c∧env.cells.lookup x=some c
 glo:∀ x,sc.names.lookup x=some .globalImplicit→env.kindOf x=some .globalImplicit
theorem qD {G':List bY} (sh:G'.map bY.sh=G.map bY.sh):∀ i e,first G i=some e→∃ e',first G' i=some e'∧e'.pl=e.pl:=by
 induction G generalizing G' with
 | nil=>intro i e h;exact nn h
 | cons a G ih=>
  induction G' with
  | nil=>exact nomatch sh
  | cons b G'=>
   rw [c8,c8] at sh
   injection sh with h1 h2
   intro i e h
   have hn:b.nm=a.nm:=aw (·.1) h1
   have hp:b.pl=a.pl:=aw (·.2.1) h1
   unfold first at h ⊢
   rw [List.find?_cons] at h ⊢
   rw [hn]
   induction q:a.nm==i with
   | true=>rw [q] at h;obtain rfl:=az h;exact ⟨b,rfl,hp⟩
   | false=>rw [q] at h;exact ih h2 i e h
theorem dg.sh {sc:Scope} {G':List bY} (S:dg W sc env G) (sh:G'.map bY.sh=G.map bY.sh):dg W sc env G' where
 kind:=S.kind
 g:=S.g
 b:=S.b
 loc:=fun x i h hi=>let ⟨k,e,f,p⟩:=S.loc x i h hi;let ⟨e',f',p'⟩:=qD sh i e f;⟨k,e',f',p'.trans p⟩
 cel:=fun x i h hi=>let ⟨k,e,c,f,p,l⟩:=S.cel x i h hi;let ⟨e',f',p'⟩:=qD sh i e f;⟨k,e',c,f',p'.trans p,l⟩
 fre:=fun x i h hi=>let ⟨k,e,c,f,p,l⟩:=S.fre x i h hi;let ⟨e',f',p'⟩:=qD sh i e f;⟨k,e',c,f',p'.trans p,l⟩
 glo:=S.glo
inductive oW (W:Wd) (F:Addr→Prop) (G:List bY) (ρ:Env) (s:Shared) (Q:T→Env→Prop) (v:Value) (s':Shared):Prop where
 | mk (x:T) (F':Addr→Prop) (ρ':Env) (h1:Q x ρ') (h2:St W F' G ρ' s') (h3:b2 F G ρ s F' ρ' s') (h4:VR W F' s'.heap x v)
inductive Jd (W:Wd) (F:Addr→Prop) (G:List bY) (ρ:Env) (s:Shared) (Q:T→Env→Prop) (v:Value) (s':Shared):Prop where
 | mk (x:T) (F':Addr→Prop) (ρ':Env) (h1:Q x ρ') (h2:St W F' G ρ' s') (h3:b2 F G ρ s F' ρ' s') (h4:dZ W F' s'.heap x v)
inductive xu (W:Wd) (F:Addr→Prop) (G:List bY) (ρ:Env) (s:Shared) (Q:T→Env→Prop) (v:Value) (s':Shared):Prop where
 | mk (x:T) (F':Addr→Prop) (ρ':Env) (as:List Addr) (h1:Q x ρ') (h2:St W F' G ρ' s') (h3:b2 F G ρ s F' ρ' s') (h4:gu W F' s'.heap as x v) (h5:as.Nodup) (h6:(∀ a∈as,s.heap.get? a=none∧¬ F' a))
inductive Aj (W:Wd) (k:Nat) (F:Addr→Prop) (G:List bY) (ρ:Env) (s:Shared) (Q:List T→Env→Prop) (v:List Value) (s':Shared):Prop where
 | mk (x:List T) (F':Addr→Prop) (ρ':Env) (h1:x.length=k) (h2:Q x ρ') (h3:St W F' G ρ' s') (h4:b2 F G ρ s F' ρ' s') (h5:bR W F' s'.heap x v)
inductive AE (W:Wd) (F:Addr→Prop) (G:List bY) (ρ:Env) (s:Shared) (Q:Bool→Env→Prop) (b:Bool) (s':Shared):Prop where
 | mk (F':Addr→Prop) (ρ':Env) (h1:Q b ρ') (h2:St W F' G ρ' s') (h3:b2 F G ρ s F' ρ' s')
noncomputable def cX (W:Wd) (C:aC) (n:Nat) (sc:Scope) (t:PySem.Env→Sem Value) (d:SE):Prop:=
 ∀ A env F G ρ s Q E,sQ n A→dg W sc env G→St W F G ρ s→d C ρ Q→wpAny (model W.prog W.w) A (t env) (oW W F G ρ s Q) E s
noncomputable def Gm (W:Wd) (C:aC) (n:Nat) (sc:Scope) (t:PySem.Env→Sem Value) (o:ji):Prop:=
 ∀ A env F G ρ s Q E,sQ n A→dg W sc env G→St W F G ρ s→o.run C ρ Q→wpAny (model W.prog W.w) A (t env) (Jd W F G ρ s Q) E s
noncomputable def sA (W:Wd) (C:aC) (n:Nat) (sc:Scope) (t:PySem.Env→Sem Value) (d:SE):Prop:=
 ∀ A env F G ρ s Q E,sQ n A→dg W sc env G→St W F G ρ s→d C ρ Q→wpAny (model W.prog W.w) A (t env) (xu W F G ρ s Q) E s
noncomputable def xZ (W:Wd) (C:aC) (n:Nat) (sc:Scope) (es:List Expr) (d:sE):Prop:=
 ∀ pos A env F G ρ s Q E,sQ n A→dg W sc env G→St W F G ρ s→d C ρ Q→wpAny (model W.prog W.w) A (spliced (backTo pos (starEach es env))) (Aj W es.length F G ρ s Q) E s
noncomputable def nS (W:Wd) (C:aC) (n:Nat) (sc:Scope) (t:PySem.Env→Sem Bool) (d:SB):Prop:=
 ∀ A env F G ρ s Q E,sQ n A→dg W sc env G→St W F G ρ s→d C ρ Q→wpAny (model W.prog W.w) A (t env) (AE W F G ρ s Q) E s
section
variable {W:Wd} {F F'1 F'2:Addr→Prop} {G:List bY} {ρ ρ1 ρ2:Env} {s s₁ s₂ s'3:Shared}
theorem oW.q {Q:T→Env→Prop} (x:oW W F G ρ s Q v s₁):Jd W F G ρ s Q v s₁:=let ⟨t,F',ρ',h1,h2,h3,h4⟩:=x;⟨t,F',ρ',h1,h2,h3,h4.q⟩
theorem oW.after {Q:T→Env→Prop} (y:b2 F G ρ s F'1 ρ1 s₁) (x:oW W F'1 G ρ1 s₁ Q v s₂):oW W F G ρ s Q v s₂:=let ⟨t,F',ρ',h1,h2,h3,h4⟩:=x;⟨t,F',ρ',h1,h2,y.trans h3,h4⟩
theorem AE.after {Q:Bool→Env→Prop} {v:Bool} (y:b2 F G ρ s F'1 ρ1 s₁) (x:AE W F'1 G ρ1 s₁ Q v s₂):AE W F G ρ s Q v s₂:=let ⟨F',ρ',h1,h2,h3⟩:=x;⟨F',ρ',h1,h2,y.trans h3⟩
theorem Aj.after {Q:List T→Env→Prop} {v:List Value} (y:b2 F G ρ s F'1 ρ1 s₁) (x:Aj W k F'1 G ρ1 s₁ Q v s₂):Aj W k F G ρ s Q v s₂:=let ⟨t,F',ρ',l,h1,h2,h3,h4⟩:=x;⟨t,F',ρ',l,h1,h2,y.trans h3,h4⟩
theorem fy.epost {t:T} {Q:T→Env→Prop} (y:b2 F G ρ s F'1 ρ1 s₁) (x:St W F'1 G ρ1 s₁) (r:fy W F'1 s₁ t v s₂) (q:Q t ρ1):oW W F G ρ s Q v s₂:=by
 obtain ⟨F',g,r⟩:=r
 obtain ⟨h1,h2⟩:=x.grow g
 exact ⟨t,F',ρ1,q,h1,y.trans h2,r⟩
theorem mn (x:St W F G ρ s) (y:b2 F G ρ s F'1 ρ1 s₁) (ha:s.heap.get? a=none):a∉bk G ρ1∧∀ e∈G,e.pl.addr≠a:=by
 refine ⟨fun m=>?_,fun e he z=>?_⟩
 ·obtain ⟨o,h⟩:=x.env.live (y.own a m);rw [ha] at h;exact nn h
 ·obtain ⟨o,h⟩:=x.env.liveP he;rw [z,ha] at h;exact nn h
theorem St.adopt (x'0:St W F G ρ s) (x:St W F'1 G ρ1 s₁) (y:b2 F G ρ s F'1 ρ1 s₁) (hn:∀ a∈as,s.heap.get? a=none) (hl:∀ a∈as,∃ o,s₁.heap.get? a=some o) :
  St W (fun a=>F'1 a∨a∈as) G ρ1 s₁∧b2 F G ρ s (fun a=>F'1 a∨a∈as) ρ1 s₁:=by
 have ne:=fun a ha=>mn x'0 y (hn a ha)
 refine ⟨⟨x.env.imp fun e _ sl _ r=>r.imp (fun _ q=>q) (fun _=>.inl) fun _ _ _ q=>q,x.world,fun a h=>.inl (x.base a h),fun a f=>f.elim (x.live a) (hl a),x.places,x.nodup,
  fun a m f=>f.elim (x.ownF a m) fun q=>(ne a q).1 m,x.ownP,fun e he f=>f.elim (x.plF e he) fun q=>(ne _ q).2 e he rfl,x.new,x.newP,x.fix⟩,
  ⟨⟨y.step.gens,y.step.os,fun a h=>.inl (y.step.mono a h),y.step.keep,fun a f=>f.elim (y.step.freshF a) fun q=>.inr (.inl (hn a q)),y.step.freshO,y.step.lives,y.step.sh⟩,y.pl,y.own⟩⟩
theorem xu.epost {Q:T→Env→Prop} (x'0:St W F G ρ s) (x:xu W F G ρ s Q v s₁):oW W F G ρ s Q v s₁:=by
 obtain ⟨t,F',ρ',as,q,st,y,r,nd,hn⟩:=x
 obtain ⟨h1,h2⟩:=x'0.adopt st y (fun a ha=>(hn a ha).1) fun a ha=>r.live ha
 exact ⟨t,_,ρ',q,h1,h2,r.freeze⟩
theorem mi.opost {t:T} {Q:T→Env→Prop} (y:b2 F G ρ s F'1 ρ1 s₁) (x:St W F'1 G ρ1 s₁) (r:mi W F'1 s₁ t v s₂) (q:Q t ρ1):xu W F G ρ s Q v s₂:=by
 obtain ⟨as,g,r,nd,hn⟩:=r
 obtain ⟨h1,h2⟩:=x.grow g
 exact ⟨t,F'1,ρ1,as,q,h1,y.trans h2,r,nd,fun a ha=>⟨y.step.lives a (hn a ha),fun f=>by obtain ⟨o,h⟩:=x.live a f;rw [hn a ha] at h;exact nn h⟩⟩
theorem St.toks (x:St W F G ρ s) (t:Nat):St W F G ρ { s with toks:=t }∧b2 F G ρ s F ρ { s with toks:=t }:=x.grow (cf.toks F t)
end
section
variable {W:Wd} {C:aC} {n:Nat} {sc:Scope}
theorem sA.e {t:PySem.Env→Sem Value} {d:SE} (h:sA W C n sc t d):cX W C n sc t d:=fun A env F G ρ s Q E hA S x q=>ax (h A env F G ρ s Q E hA S x q) (fun _ _ z=>z.epost x) am
theorem cX.q {t:PySem.Env→Sem Value} {d:SE} (h:cX W C n sc t d):Gm W C n sc t (.e d):=fun A env F G ρ s Q E hA S x q=>ax (h A env F G ρ s Q E hA S x q) (fun _ _ z=>z.q) am
theorem bad {t:PySem.Env→Sem Value}:cX W C n sc t b5:=fun _ _ _ _ _ _ _ _ _ _ _ q=>q.elim
theorem xL {t:PySem.Env→Sem Bool}:nS W C n sc t Ao:=fun _ _ _ _ _ _ _ _ _ _ _ q=>q.elim
theorem Hw:mX.all (fun x=>x != ("__debug__":Str)&&x != ("__classdict__":Str))=true:=by decide +kernel
theorem j1 (h:bm i x):(x==("__debug__":Str))=false∧(x==("__classdict__":Str))=false:=by
 have:=aY.mp Hw x (List.mem_of_getElem? h)
 simp only [bC,bne_iff_ne,ne_eq] at this
 exact ⟨eF.mpr this.1,eF.mpr this.2⟩
theorem dg.loads (S:dg W sc env G) (ho:cR sc x=true) (hi:bm i x) :
  ∃ e,first G i=some e∧∀ {M:Model} {A:Around} {E:Value→Shared→Prop} {s:Shared} {v:Value} {Q:Value→Shared→Prop} {pos:Pos},e.pl.Holds s.heap (some v)→Q v s→wpAny M A (eval (.Name x pos) env) Q E s:=by
 rcases Bool.or_eq_true_iff.mp ho with ho | ho
 ·rcases Bool.or_eq_true_iff.mp ho with ho | ho
  ·obtain ⟨hk,e,hf,hp⟩:=S.loc x i (oN ho) hi
   refine ⟨e,hf,fun {M A E s v Q pos} hv q=>?_⟩
   rw [hp] at hv
   obtain ⟨m,hn,hm⟩:=hv
   exact wpAny_Name (wpAny_loadName_local S.kind hk hn hm q) (j1 hi).1
  ·obtain ⟨hk,e,c,hf,hp,hc⟩:=S.cel x i (oN ho) hi
   refine ⟨e,hf,fun {M A E s v Q pos} hv q=>?_⟩
   rw [hp] at hv
   exact wpAny_Name (wpAny_loadName_cell S.kind hk hc hv q) (j1 hi).1
 ·obtain ⟨hk,e,c,hf,hp,hc⟩:=S.fre x i (oN ho) hi
  refine ⟨e,hf,fun {M A E s v Q pos} hv q=>?_⟩
  rw [hp] at hv
  rcases hk with hk | hk
  ·exact wpAny_Name (wpAny_loadName_cell S.kind hk hc hv q) (j1 hi).1
  ·exact wpAny_Name (wpAny_loadName_free S.kind hk hc hv q (j1 hi).2) (j1 hi).1
theorem dj (h:tb.id x=some i):bm i x:=GJ h
theorem xG {t:T} (h:tb.glob x=some t):(x==("__debug__":Str))=false:=by
 have h:sw x=some t:=h
 refine eF.mpr fun e=>?_
 have:sw ("__debug__":Str)=none:=by decide +kernel
 rw [e,this] at h;exact nn h
theorem dg.gets (S:dg W sc env G) (ho:cw sc x=true) (hd:(x==("__debug__":Str))=false)
  (hw:gZ W) (hk:∀ b o,W.h0.get? b=some o→s.heap.get? b=some o) (hv:W.mg x=some v∨(W.mg x=none∧W.mb x=some v)) (q:Q v s):wpAny M A (eval (.Name x pos) env) Q E s:=by
 refine Calls.Name_function_global S.kind (S.glo x (oN ho)) ?_ hd
 rcases hv with hv | ⟨h1,h2⟩
 ·exact Calls.loadGlobal_global (S.g▸hw.ns.keeps hk) hv q
 ·exact Calls.loadGlobal_builtin (S.g▸hw.ns.keeps hk) h1 (S.b▸hw.bs.keeps hk) h2 q
theorem Kj (ho:cR sc x=true) (hi:bm i x):cX W C n sc (eval (.Name x pos)) (ae i):=by
 intro A env F G ρ s Q E hA S st q
 obtain ⟨e,hf,ld⟩:=S.loads ho hi
 have lk:=st.look hf
 have q:(match ρ.get i with | .val t=>Q t ρ | .own false t=>Q t (ρ.set i (.val t)) | _=>False):=q
 induction ht:ρ.get i with
 | unb=>rw [ht] at q;exact q.elim
 | val t=>
  rw [ht] at lk q
  obtain ⟨v,hv,r⟩:=lk
  exact ld hv ⟨t,F,ρ,q,st,.refl,r⟩
 | own fx t=>
  rw [ht] at q
  induction fx with
  | true=>exact q.elim
  | false=>
   obtain ⟨h1,h2,v,hv,r⟩:=st.freeze hf ht
   exact ld hv ⟨t,_,_,q,h1,h2,r⟩
theorem BV {sl:Slot} {Q:T→Prop} (q:sj sl Q):∃ t,(sl=.val t∨∃ fx,sl=.own fx t)∧Q t:=by
 induction sl with
 | unb=>exact q.elim
 | val t=>exact ⟨t,.inl rfl,q⟩
 | own fx t=>exact ⟨t,.inr ⟨fx,rfl⟩,q⟩
theorem St.peek (st:St W F G ρ s) {e:bY} (hf:first G i=some e) {Q:T→Prop} (q:sj (ρ.get i) Q):∃ t v,Q t∧e.pl.Holds s.heap (some v)∧dZ W F s.heap t v:=by
 have lk:=st.look hf
 obtain ⟨t,h,q⟩:=BV q
 rcases h with h | ⟨fx,h⟩
 ·rw [h] at lk;obtain ⟨v,hv,r⟩:=lk;exact ⟨t,v,q,hv,r.q⟩
 ·rw [h] at lk;obtain ⟨v,hv,r⟩:=lk;exact ⟨t,v,q,hv,r.q⟩
theorem P1 (ho:cR sc x=true) (hi:bm i x):Gm W C n sc (eval (.Name x pos)) (.v i):=by
 intro A env F G ρ s Q E hA S st q
 obtain ⟨e,hf,ld⟩:=S.loads ho hi
 obtain ⟨t,v,q,hv,r⟩:=st.peek hf (Q:=fun t=>Q t ρ) q
 exact ld hv ⟨t,F,ρ,q,st,.refl,r⟩
theorem kg {e:Expr} (h:oP tb sc e=some i) (k:∀ x p,e=.Name x p→cR sc x=true→tb.id x=some i→P):P:=dy h fun x h1 h2=>sD h2 fun h3 h4=>mv h1 fun p h5=>k x p h5 h3 h4
theorem nI {e:Expr} (h:cX W C n sc (eval e) (bA tb sc e)):Gm W C n sc (eval e) (bf tb sc e (bA tb sc e)):=by
 unfold bf
 induction q:oP tb sc e with
 | none=>exact h.q
 | some i=>exact kg q fun x p e ho hi=>e▸P1 ho (dj hi)
theorem uL {o:Option SE} {t:PySem.Env→Sem Value} (h:∀ d,o=some d→cX W C n sc t d):cX W C n sc t (I5 o):=by
 induction o with
 | none=>exact bad
 | some d=>exact h d rfl
theorem G8 (hw:gZ W):cX W C n sc (eval (.Name x pos)) (uU tb sc x):=by
 unfold uU
 by_cases ho:cR sc x=true
 ·rw [au ho]
  exact uL fun d h=>eU h fun i hi z=>z▸Kj ho (dj hi)
 ·rw [av ho]
  by_cases hg:cw sc x=true
  ·rw [au hg]
   refine uL fun d h=>eU h fun t ht z=>?_
   subst z
   intro A env F G ρ s Q E hA S st q
   obtain ⟨v,hv,r⟩:=hw.glob x t ht
   exact S.gets hg (xG ht) hw st.world (.inl hv) ⟨t,F,ρ,q,st,.refl,r.mono (fun a f=>st.base a f) fun a o _ e=>st.world a o e⟩
  ·rw [av hg];exact bad
theorem Eh {c:Const}:cX W C n sc (eval (.Constant c k pos)) (match E5 tb c with | some t=>ah t | none=>b5):=by
 induction ht:E5 tb c with
 | none=>exact bad
 | some t=>
  intro A env F G ρ s Q E hA S st q
  rw [arm_eval_Constant]
  obtain ⟨h1,h2⟩:=st.toks (s.toks+1)
  refine cps fun GG kk=>?_
  induction c with
  | none=>obtain rfl:=az ht;exact kk (al ⟨_,F,ρ,q,st,.refl,.none⟩)
  | bool b=>obtain rfl:=az ht;exact kk (al ⟨_,F,ρ,q,st,.refl,.bool _⟩)
  | int i=>obtain rfl:=az ht;exact kk (wpAny_mkInt ⟨_,F,ρ,q,h1,h2,.int _ _⟩)
  | str x=>
   refine eU ht fun i hi z=>kk ?_
   subst z
   exact wpAny_mkText ⟨_,F,ρ,q,h1,h2,.str _ (dj hi)⟩
  | _=>exact nn ht
end
end
section
section
variable {W:Wd} {F:Addr→Prop} {s:Shared} {A:Around} {E:Value→Shared→Prop}
theorem EL {h:Heap} {xs:List T}:∀ {vs:List Value} {l:List Bool},v6 xs=some l→bR W F h xs vs→vs=l.map .bool:=by
 induction xs with
 | nil=>intro vs l e x;rw [x.inv0,← az e];rfl
 | cons x xs ih=>
  intro vs l e r
  obtain ⟨v,vs,r1,rs⟩:=r.inv
  exact dy e fun b h1 e=>eU e fun l' hl z=>by rw [z,ih hl rs,(vQ h1▸r1:VR W F h (.bool b) v).q.bool_inv];rfl
theorem AY (l:List Bool):(List.range l.length).all (fun i=>l.getD i true)=l.all id:=by
 have e:l=(List.range l.length).map fun i=>l.getD i true:=by
  refine List.ext_getElem (by simp) fun i h1 h2=>?_
  simp [h1]
 conv=>rhs;rw [e]
 rw [List.all_map];rfl
theorem Mh {a t:T} (hA:A.handled=none) (hu:A.units+100 < cLine) (x:dZ W F s.heap a v) (e:bi .all a=some t):wpAny (model W.prog W.w) A (call (.builtin "all") [v]) (fy W F s t) E s:=by
 refine dy e fun xs hx e=>eU e fun l hl z=>?_
 rw [z]
 obtain ⟨vs,ad,n,rfl,g,_,r⟩:=(et hx▸x).list_inv
 have hv:=EL hl r
 refine call_all_walk (wpAny_pyIter_list (pg g) ?_)
 have hne:ad≠s.heap.objs.size:=Nat.ne_of_lt (ei g)
 refine ⟨_,_,_,vs.toArray.size,_,_,fun i=>l.getD i true,rfl,Walks.list (show A.in1.handled=none from hA) s.heap.objs.size ad hne vs.toArray,?_,?_,?_⟩
 ·exact ⟨⟨_,dH _ rfl,rfl,rfl⟩,(pg g).push _⟩
 ·intro i v s' Q E' hi q
  rw [List.getElem?_toArray,hv,dL] at hi
  induction hb:l[i]? with
  | none=>rw [hb] at hi;exact nn hi
  | some b=>
   rw [hb] at hi
   obtain rfl:=az hi
   have:l.getD i true=b:=by rw [hQ,hb];rfl
   have q:Q (l.getD i true) s':=q
   rw [this] at q
   exact wpAny_truthy_bool q
 ·intro h' tk hk
  have e1:vs.toArray.size=l.length:=by rw [hv];simp
  rw [e1,AY]
  refine ⟨F,⟨rfl,rfl,fun b o e=>hk b o (fun m=>?_) (bU _ e),fun _ f=>f,fun _=>.inl⟩,.bool _⟩
  rw [aV.mp m,aS] at e;exact nn e
end
end
section
set_option backward.match.sparseCases true
theorem Be:typeLookup (.type "list") "keys"=pure none:=by rw [typeLookup_type,builtinLookup_eq_fast];kernel_rfl
theorem Mu {prog:Program} {w:World} {xs:Array Value} {Q:Option Value→Shared→Prop} (hA:A.handled=none)
  (hx:s.heap.get? a=some (seqObj "list" xs k)) (h:∀ h' tk,(∀ b o,s.heap.get? b=some o→h'.get? b=some o)→Q none { s with heap:=h',toks:=tk }):wpAny (model prog w) A (getAttr? (.ref a) "keys") Q E s:=by
 obtain ⟨hp,g,d,tk,os⟩:=s
 have hT:∀ tk',(⟨hp,g,d,tk',os⟩:Shared).TypeIs (.ref a) "list":=fun _=>⟨_,hx,rfl⟩
 have f1:=sub_AttributeError
 have f3:=PySem.F.slot_list_getattribute.lookup
 have f4:=PySem.F.slot_list_getattribute.bind (.ref a)
 have f5:=am_list_getattr_none
 have hm:=Be
 unfold getAttr? getAttrBy? getAttrBy
 repeat (any_goals (first | assumption | exact hT _ | ((with_reducible show wpAny _ _ (call (Value.builtin "list.__getattribute__") _ _) _ _ _);refine call_meets PySem.F.slot_list_getattribute (hT _) am_entry_list_getattribute (PySem.F.args_list_getattribute_2 _ _) (meets_getattribute_miss_list a xs k #[] "keys" _ hm (by decide +kernel) (by decide +kernel)) ⟨hx,hA,fun h' tk' e hx'=>?_⟩) | wp_step))
 obtain ⟨t',u',he⟩:=hx'.there
 show wpAny _ _ (getattributeRaised _ _ _ _ _ _ _) _ _ _
 unfold getattributeRaised
 repeat (any_goals (first | assumption | wp_step))
 exact h _ _ hx'.keeps
theorem gO:plainId "dict.update.loop"=true:=by decide +kernel
theorem rW:entryFor table "dict.update.loop"=some Builtin.«dict.update.loop»:=entryFor_of_tree (by kernel_rfl)
section
variable {W:Wd} {F:Addr→Prop} {s:Shared} {A:Around} {E:Value→Shared→Prop}
theorem mc {x:T} {r:List T} {ps:List (T×T)} (e:fH (x::r)=some ps) (k:∀ a b ps',x=.tup [a,b]→fH r=some ps'→ps=(a,b)::ps'→P):P:=
 dy e fun p h1 e=>eU e fun ps' h2 z=>k p.1 p.2 ps' (rh h1) h2 z
theorem uP {xs:List T}:∀ {ps:List (T×T)} {i:Nat} {x:T},fH xs=some ps→xs[i]? = some x→∃ a b,x=.tup [a,b]∧ps.drop i=(a,b)::ps.drop (i+1):=by
 induction xs with
 | nil=>intro ps i x e h;exact nn h
 | cons y ys ih=>
  intro ps i x e h
  refine mc e fun a b ps' h1 h2 z=>?_
  rw [z]
  induction i with
  | zero=>exact ⟨a,b,(az h).symm.trans h1,rfl⟩
  | succ i=>exact ih (ps:=ps') (i:=i) h2 h
theorem xd {xs:List T}:∀ {ps:List (T×T)},fH xs=some ps→ps.length=xs.length:=by
 induction xs with
 | nil=>intro ps e;rw [← az e];rfl
 | cons y ys ih=>intro ps e;exact mc e fun a b ps' h1 h2 z=>z▸aw (·+1) (ih h2)
structure PK (W:Wd) (F:Addr→Prop) (s:Shared) (D I l:Addr) (ps:List (T×T)) (d:List (bL×T)) (i:Nat) (s':Shared) (acc:List (bL×T)) (es:List DictEntry) (ep:Nat):Prop where
 kp:∀ b o,s.heap.get? b=some o→s'.heap.get? b=some o
 gn:s'.gens=s.gens
 os:s'.os=s.os
 it:g4 s'.heap I i (.list l)
 hd:s'.heap.get? D=some (aL es ep)
 r:cL W F s'.heap acc es
 nd:(acc.map (·.1)).Nodup
 hl:acc.length≤SZ
 hp:lD (ps.drop i) acc=some d
theorem Ep {R:Result→Shared→Prop} {D I l:Addr} {xs:List T} {ps:List (T×T)} {d:List (bL×T)} (hA:A.handled=none) (hu:A.units+60 < cLine) (hg:s.heap.get? l=some (seqObj "list" vs.toArray n)) (rv:bR W F s.heap xs vs)
  (hps:fH xs=some ps) (hlive:∀ a,F a→∃ o,s.heap.get? a=some o) (hI:s.heap.get? I=none) (hD:s.heap.get? D=none) (hID:I≠D)
  (fin:∀ s' es ep,(∀ b o,s.heap.get? b=some o→s'.heap.get? b=some o)→s'.gens=s.gens→s'.os=s.os→s'.heap.get? D=some (aL es ep)→cL W F s'.heap d es→(d.map (·.1)).Nodup→d.length≤SZ→R (.ok (.ret .none)) s') :
  ∀ (k i:Nat) (s':Shared) (acc:List (bL×T)) (es:List DictEntry) (ep:Nat) (tk:Tok),xs.length < i+k→i≤xs.length→PK W F s D I l ps d i s' acc es ep→
   codeAny (model W.prog W.w) A (.builtin "dict.update.loop" ⟨[.ref D,.ref I,.int i tk,.none],[]⟩) R s':=by
 have nF:∀ {a},s.heap.get? a=none→¬ F a:=fun h f=>by obtain ⟨o,e⟩:=hlive _ f;rw [h] at e;exact nn e
 have ne:∀ {a b o},s.heap.get? a=none→s.heap.get? b=some o→b≠a:=fun h e q=>by rw [q,h] at e;exact nn e
 have hIl:I∉Hd.at (.list l):=fun m=>ne hI hg (aV.mp m).symm
 intro k
 induction k with
 | zero=>intro i s' acc es ep tk hk hi U;exact absurd (gI hk hi) (f7 _)
 | succ k ih=>
  intro i s' acc es ep tk hk hi U
  refine codeAny_builtin rW ?_
  rw [Around.under_plainId gO _]
  refine ac (m:=pyNext (.ref I)) (ax (kB (F:=F) (xs:=xs) (show A.in1.handled=none from hA) (nF hI) U.it ⟨vs,n,U.kp _ _ hg,rv.mono (fun _ f=>f) fun a o _ e=>U.kp a o e⟩ hIl) (fun r' s₂ z=>?_) am)
  have kI:∀ b o,s.heap.get? b=some o→s₂.heap.get? b=some o:=fun b o e=>z.keep b o (ne hI e) (U.kp b o e)
  have hd2:=z.keep D _ (fun q=>hID q.symm) U.hd
  have r'2:=U.r.mono (fun _ f=>f) fun a o f e=>z.keep a o (fun q=>nF hI (q▸f)) e
  induction hx:xs[i]? with
  | none=>
   obtain rfl:=z.fin hx
   have hp:=U.hp
   rw [List.drop_eq_nil_of_le (by rw [xd hps];exact List.getElem?_eq_none_iff.mp hx)] at hp
   obtain rfl:=az hp
   exact ac (al (al (fin s₂ es ep kI (z.gens.trans U.gn) (z.os.trans U.os) hd2 r'2 U.nd U.hl)))
  | some x=>
   obtain ⟨v,rvv,it2⟩:=z.item hx
   obtain ⟨a,b,hx',hdr⟩:=uP hps hx
   have hp:=U.hp
   rw [hx'] at rvv
   rw [hdr] at hp
   have hlt:=(g8.mp hx).1
   refine dy (show (fQ a).bind _=some d from hp) fun key hkey hp=>dy hp fun acc' hput hp=>qh hput fun h1 h2 z2=>?_
   subst z2
   obtain ⟨us,ad,m,rfl,_,g2,_,r2⟩:=rvv.tup_inv
   obtain ⟨v1,v2,ra,rb⟩:=r2.two
   refine ac (b4 (ac (wpAny_tryCatch ?_)))
   unfold Builtin.Dict.pairItems
   refine ac (wpAny_typeOf (T:="tuple") ⟨_,g2,rfl⟩ ?_)
   rw [au (by decide)]
   refine ac (wpAny_seqItems g2 rfl (al ?_))
   refine b4 (p6 (A:=A.in1) (show A.units+1 < cLine by lia) (nF hD) hd2 r'2 U.nd h1 h2 (gJ hkey▸ra) rb fun es' ep' h' tk' hg' hs' r'=>?_)
   refine al ⟨plainId_quiet gO _,?_⟩
   exact ih (i+1) { s₂ with heap:=h',toks:=tk' } _ es' ep' 0 (by lia) hlt ⟨fun b o e=>(hs'.2 b (ne hD e)).trans (kI b o e),z.gens.trans U.gn,z.os.trans U.os,it2.keep fun o e=>(hs'.2 I hID).trans e,hg',r',ki U.nd,aI hJ h2,hp⟩
theorem Mo:∀ a b c d:Fin 12,reduceHash (Builtin.Tuple.tupleHashOf [hashInt (a:Nat),hashInt (b:Nat)])=reduceHash (Builtin.Tuple.tupleHashOf [hashInt (c:Nat),hashInt (d:Nat)])→a=c∧b=d:=by decide +kernel
theorem Du {a b c d:Int} (h:0≤a∧a < 12∧0≤b∧b < 12) (h':0≤c∧c < 12∧0≤d∧d < 12) (e:eX W (.T [a,b])=eX W (.T [c,d])):a=c∧b=d:=by
 obtain ⟨a,rfl⟩:=jl h.1
 obtain ⟨b,rfl⟩:=jl h.2.2.1
 obtain ⟨c,rfl⟩:=jl h'.1
 obtain ⟨d,rfl⟩:=jl h'.2.2.1
 have:=Mo ⟨a,Int.ofNat_lt.mp h.2.1⟩ ⟨b,Int.ofNat_lt.mp h.2.2.2⟩ ⟨c,Int.ofNat_lt.mp h'.2.1⟩ ⟨d,Int.ofNat_lt.mp h'.2.2.2⟩ e
 exact ⟨aw (fun x:Fin 12=>(x.val:Int)) this.1,aw (fun x:Fin 12=>(x.val:Int)) this.2⟩
inductive Pp:bL→Prop where
 | mk (a b:Int) (h:0≤a∧a < 12∧0≤b∧b < 12):Pp (.T [a,b])
theorem iI {k:bL} (h:xT k=true):Pp k:=by
 unfold xT at h
 induction q:(Go k).bind two with
 | none=>rw [q] at h;exact bt h
 | some p=>
  rw [q] at h
  exact dy q fun l h1 h2=>by rw [Lk h1,xf h2];exact ⟨_,_,bI h⟩
theorem uA {k:bL} (h:PM k=true):∃ i,k=.I i:=by
 induction k with
 | I i=>exact ⟨i,rfl⟩
 | _=>exact bt h
set_option tactic.hygienic true in
theorem qq {f:α→Int} {c:Int}:∀ {l:List α},(l.map f).Nodup→(l.filter fun x=>f x==c).length≤1
 | [],_=>by simp
 | x::l,h=>by
  rw [c8,cO] at h
  rw [List.filter_cons]
  split
  ·rename_i hx
   have:l.filter (fun x=>f x==c)=[]:=by
    rw [List.filter_eq_nil_iff]
    intro y hy hyc
    refine h.1 (bo.mpr ⟨y,hy,?_⟩)
    rw [bp.mp hyc,bp.mp hx]
   rw [this];simp
  ·exact qq h.2
theorem cL.hashes {h:Heap}:∀ {es:List DictEntry},cL W F h kvs es→es.map (·.hash)=kvs.map fun p=>eX W p.1:=by
 induction kvs with
 | nil=>intro es x;rw [x.inv0];rfl
 | cons p kvs ih=>
  intro es x
  obtain ⟨e,es,_,b,_,r⟩:=cL.inv (k:=p.1) (t:=p.2) x
  rw [c8,c8,b,ih r]
theorem qW:typeLookup (.type "tuple") "__eq__"=pure (some (.builtin "tuple.__eq__")):=by rw [typeLookup_type,builtinLookup_eq_fast];kernel_rfl
theorem uR {es:List DictEntry} {o:Addr} {nm:String} {Q:Array DictEntry→Shared→Prop} (g:s.heap.get? o=some (aL es ep)) (r:cL W F s.heap kvs es) (nd:(kvs.map (·.1)).Nodup) (hc:kvs.all (fun p=>xT p.1)=true) (q:Q es.toArray s) :
  wpAny (model W.prog W.w) A (Builtin.Dict.entriesForEmpty nm o) Q E s:=by
 rw [aY] at hc
 have hnh:(es.map (·.hash)).Nodup:=by
  rw [r.hashes]
  have h1:=List.pairwise_map.mp nd
  refine List.pairwise_map.mpr (h1.imp_of_mem fun {p p'} hp hp' hne e=>hne ?_)
  have h2:=iI (hc p hp)
  have h4:=iI (hc p' hp')
  generalize p.1=k at h2 e ⊢
  generalize p'.1=k' at h4 e ⊢
  obtain ⟨a,b,h3⟩:=h2
  obtain ⟨c,d,h5⟩:=h4
  have h6:=Du h3 h5 e
  rw [h6.1,h6.2]
 unfold Builtin.Dict.entriesForEmpty
 refine ac (fY g rfl ?_)
 refine ac ?_
 rw [← Array.forIn_toList]
 refine wpAny_forIn_list _ (fun rest (_:PUnit) s'=>s'=s∧∀ e∈rest,e∈es) _ ?_ ?_ _ _ ⟨rfl,fun e he=>he⟩
 ·rintro e rest b s' ⟨rfl,hm⟩
  have he:e∈es:=hm e (by simp)
  obtain ⟨i,hi,rfl⟩:=List.getElem_of_mem he
  have hik:i < kvs.length:=by rw [r.length];exact hi
  obtain ⟨k,t,hkt⟩:∃ k t,kvs[i]=(k,t):=⟨_,_,rfl⟩
  obtain ⟨e',he',hk,_,_⟩:=r.at (i:=i) (k:=k) (t:=t) (by rw [cq hik,hkt])
  rw [cq hi] at he'
  obtain rfl:=az he'
  obtain ⟨a,c,_⟩:=(iI (hc (k,t) (hkt▸List.getElem_mem hik)):Pp k)
  obtain ⟨vs,ad,n,hv,_,gk,_,_⟩:=(show VR W F s'.heap (.tup [.int a,.int c]) _ from hk).tup_inv
  have hfl:¬ (es.toArray.filter (fun x=>x.hash==es[i].hash)).size > 1:=by
   have:=qq (f:=DictEntry.hash) (c:=es[i].hash) (l:=es) hnh
   rw [← eZ,Array.toList_filter]
   exact Nat.not_lt.mpr this
  refine ac ?_
  unfold Builtin.Dict.quietEq
  rw [hv]
  dsimp only
  refine ac (wpAny_specialOf (T:="tuple") ⟨_,gk,rfl⟩ qW (al ?_))
  rw [au (by decide),av hfl]
  exact al ⟨rfl,fun e he=>hm e (List.mem_cons_of_mem _ he)⟩
 ·rintro b s' ⟨rfl,_⟩
  exact al q
theorem Fw {k:bL} {t:T} (h:k∉kvs.map (·.1)):g5 kvs k t=kvs++[(k,t)]:=by
 unfold g5
 rw [av]
 rw [List.any_eq_true]
 rintro ⟨p,hp,e⟩
 exact h (bo.mpr ⟨p,hp,bI e⟩)
theorem y6 (nd:(kvs.map (·.1)).Nodup) {x:Nat} (hx:x < kvs.length):kvs[x].1∉(kvs.take x).map (·.1):=by
 intro hm
 obtain ⟨p,hp,e⟩:=bo.mp hm
 obtain ⟨j,hj,rfl⟩:=List.getElem_of_mem hp
 rw [List.length_take] at hj
 have hjx:j < x:=gI hj (Nat.min_le_left _ _)
 rw [List.getElem_take] at e
 refine List.pairwise_iff_getElem.mp nd j x (by rw [ba];exact Nat.lt_trans hjx hx) (by rw [ba];exact hx) hjx ?_
 rw [List.getElem_map,List.getElem_map];exact e
theorem Gc (hc:jo kvs=true) {p q:bL×T} (hp:p∈kvs) (hq:q∈kvs):(p.1.kind==q.1.kind)=true:=by
 rcases Bool.or_eq_true_iff.mp hc with hc | hc
 ·have hc:=aY.mp (cz.mp hc).2
  obtain ⟨a,ha⟩:=uA (hc p hp)
  obtain ⟨b,hb⟩:=uA (hc q hq)
  rw [ha,hb];rfl
 ·have hc:=aY.mp hc
  have h1:=iI (hc p hp)
  have h2:=iI (hc q hq)
  generalize p.1=k at h1
  generalize q.1=k' at h2
  obtain ⟨a,b,_⟩:=h1
  obtain ⟨c,d,_⟩:=h2
  rfl
structure QH (W:Wd) (F:Addr→Prop) (s:Shared) (D:Addr) (kvs:List (bL×T)) (i:Nat) (es':List DictEntry) (ep':Nat) (h':Heap):Prop where
 g:h'.get? D=some (aL es' ep')
 b:Heap.SameBut D s.heap h'
 r:cL W F h' (kvs.take i) es'
theorem yW {es:List DictEntry} {D o:Addr} {ep0:Nat} {nm:String} {Q:Unit→Shared→Prop} (hu:A.units < cLine) (hF:¬ F D) (hDo:D≠o) (g:s.heap.get? o=some (aL es ep)) (gD:s.heap.get? D=some (aL [] ep0)) (r:cL W F s.heap kvs es)
  (nd:(kvs.map (·.1)).Nodup) (hl:kvs.length≤SZ) (hc:jo kvs=true)
  (q:∀ es' ep' h' tk,h'.get? D=some (aL es' ep')→Heap.SameBut D s.heap h'→cL W F h' kvs es'→Q () { s with heap:=h',toks:=tk }):wpAny (model W.prog W.w) A (do
   let epoch ← dictEpoch o
   for i in [0:(← dictEntries o).size] do
    let some e:=(← dictEntries o)[i]? | unsupported "internal:dict-merge"
    holding [e.key,e.val] (dictSetHashed D e.key e.hash e.val)
    if (← dictEpoch o) != epoch then unsupported s!"{nm}:source-changed-during-callback") Q E s:=by
 have hlen:=r.length
 refine ac (wpAny_dictEpoch g rfl (ac (fY g rfl (ac ?_))))
 refine qQ es.length _ (fun i _ s'=>∃ es' ep' h' tk,s'={ s with heap:=h',toks:=tk }∧QH W F s D kvs i es' ep' h') _ (fun x b s' hx I=>?_) (fun b s' I=>?_) _ ⟨[],ep0,s.heap,s.toks,rfl,gD,Heap.SameBut.refl _ _,.nil⟩
 ·obtain ⟨es',ep',h',tk,rfl,J⟩:=I
  have g':h'.get? o=some (aL es ep):=(J.b.2 o (Ne.symm hDo)).trans g
  have hik:x < kvs.length:=by rw [hlen];exact hx
  have hmem:kvs[x]∈kvs:=List.getElem_mem hik
  obtain ⟨e,he,hk,hh,hv⟩:=r.at (i:=x) (k:=kvs[x].1) (t:=kvs[x].2) (cq hik)
  refine ac (fY (s:={ s with heap:=h',toks:=tk }) g' rfl ?_)
  rw [List.getElem?_toArray,he]
  refine ac (m:=holding [e.key,e.val] (dictSetHashed D e.key e.hash e.val)) (b4 ?_)
  rw [hh]
  have hhom:tR kvs[x].1 (kvs.take x)=true:=aY.mpr fun p hp=>Gc hc (List.mem_of_mem_take hp) hmem
  have mono:∀ {t v},VR W F s.heap t v→VR W F h' t v:=fun x=>x.mono (fun _ f=>f) fun a o f e=>(J.b.2 a (fun q=>hF (q▸f))).trans e
  refine wR (s:={ s with heap:=h',toks:=tk }) hu hF J.g J.r (List.map_take▸List.Pairwise.sublist (List.take_sublist ..) nd) hhom (by rw [List.length_take];exact eG (Nat.min_le_left _ _) (gI hik hl)) (mono hk) (mono hv) fun es2 ep2 h2 tk2 g2 hb2 r2=>?_
  rw [Fw (y6 nd hik)] at r2
  have g3:h2.get? o=some (aL es ep):=(hb2.2 o (Ne.symm hDo)).trans g'
  refine ac (wpAny_dictEpoch (s:={ s with heap:=h2,toks:=tk2 }) g3 rfl (bD (by simp) (al ⟨es2,ep2,h2,tk2,rfl,g2,J.b.trans hb2,?_⟩)))
  rw [List.take_add_one,cq hik]
  exact r2
 ·obtain ⟨es',ep',h',tk,rfl,J⟩:=I
  exact al (q es' ep' h' tk J.g J.b (List.take_of_length_le (er hlen)▸J.r))
theorem AP {es:List DictEntry} (r:cL W F s.heap kvs es) (h:(kvs.all fun p=>PM p.1)=true):(es.toArray.all fun e=>(keyPart e.key).isSome)=true:=by
 rw [List.all_toArray]
 refine aY.mpr fun e he=>?_
 obtain ⟨k,t,hm,hk,_⟩:=r.mem he
 obtain ⟨n,hn⟩:=uA (aY.mp h _ hm)
 have hn:k=.I n:=hn
 subst hn
 obtain ⟨u,hu⟩:=(show VR W F s.heap (.int n) _ from hk).q.int_inv
 rw [hu];rfl
theorem H5 {es:List DictEntry} {D o:Addr} {ep0:Nat} {nm:String} {Q:Unit→Shared→Prop} (hu:A.units < cLine) (hF:¬ F D) (hDo:D≠o) (ho:(o==sysModules)=false) (g:s.heap.get? o=some (aL es ep)) (gD:s.heap.get? D=some (aL [] ep0)) (r:cL W F s.heap kvs es)
  (nd:(kvs.map (·.1)).Nodup) (hl:kvs.length≤SZ) (hc:jo kvs=true)
  (q:∀ es' ep' h' tk,h'.get? D=some (aL es' ep')→Heap.SameBut D s.heap h'→cL W F h' kvs es'→Q () { s with heap:=h',toks:=tk }):wpAny (model W.prog W.w) A (Builtin.Dict.mergeDict nm D o) Q E s:=by
 have hlen:=r.length
 have loopQ:=yW (E:=E) (nm:=nm) hu hF hDo g gD r nd hl hc q
 unfold Builtin.Dict.mergeDict
 refine bD (by simpa using hDo) (ac ?_)
 unfold Builtin.Dict.showsAll
 refine bD (by rw [ho];exact bO) (al (ac (fY g rfl ?_)))
 dsimp only
 by_cases hfew:(decide (es.toArray.size≤8)&&es.toArray.all fun e=>(keyPart e.key).isSome)=true
 ·exact bD (by rw [hfew];exact bO) loopQ
 ·refine lI (by rw [Bool.eq_false_iff.mpr hfew];rfl) ?_
  have hc2:kvs.all (fun p=>xT p.1)=true:=(Bool.or_eq_true_iff.mp hc).resolve_left fun h=>hfew (cz.mpr ⟨br (aI (er hlen.symm) (bI (cz.mp h).1)),AP r (cz.mp h).2⟩)
  refine ac (fY gD rfl (lI (by simp) (ac (uR g r nd hc2 ?_))))
  by_cases hne:(!es.toArray.isEmpty)=true
  ·refine lI hne (ac (wpAny_updateDictKeysTo gD rfl (al ?_) (show es.toArray.size≤_ from aI (er hlen.symm) (Nat.le_succ_of_le (aI hl gz)))))
   have hb:Heap.SameBut D s.heap (s.heap.update D (Obj.mapDictKeys fun _=>es.toArray)):=f6 ..
   exact q es (ep0+1) _ s.toks (li _ gD rfl) hb (r.mono (fun _ f=>f) fun a o f e=>(hb.2 a (fun q=>hF (q▸f))).trans e)
  ·refine bD hne ?_
   have h0:es=[]:=by simpa using hne
   subst h0
   have hk0:kvs=[]:=eC hlen
   subst hk0
   exact al (q [] ep0 s.heap s.toks gD (Heap.SameBut.refl _ _) .nil)
theorem vt {ps:List (T×T)}:∀ {acc d:List (bL×T)},lD ps acc=some d→(acc.map (·.1)).Nodup→acc.length≤SZ→(d.map (·.1)).Nodup∧d.length≤SZ:=by
 induction ps with
 | nil=>intro acc d e h1 h2;rw [← az e];exact ⟨h1,h2⟩
 | cons p ps ih=>intro acc d e h1 h2;exact dy e fun key hk e=>dy e fun acc' hp e=>qh hp fun _ h3 z=>ih e (z▸ki h1) (z▸aI hJ h3)
theorem uw {d:List (bL×T)} {es:List DictEntry} (kp:∀ b o,s.heap.get? b=some o→s'.heap.get? b=some o) (e1:s'.gens=s.gens) (e2:s'.os=s.os) (hsys:∃ o,s.heap.get? sysModules=some o) (g:s'.heap.get? s.heap.objs.size=some (aL es ep)) (r:cL W F s'.heap d es)
  (nd:(d.map (·.1)).Nodup) (hl:d.length≤SZ):mi W F s (.dict d) (.ref s.heap.objs.size) s':=
 ⟨[s.heap.objs.size],⟨e1,e2,kp,fun _ f=>f,fun _=>.inl⟩,.dict rfl g hl ⟨nd,by
  obtain ⟨o,ho⟩:=hsys
  have:s.heap.objs.size≠sysModules:=fun q=>f7 _ (q▸ei ho)
  simpa using this⟩ r,by simp,fun a ha=>by rw [aV.mp ha];exact aS _⟩
theorem zW {a t:T} (hA:A.handled=none) (hu:A.units+100 < cLine) (hF:∀ a,F a→∃ o,s.heap.get? a=some o) (hsys:∃ o,s.heap.get? sysModules=some o) (x:dZ W F s.heap a v) (e:bi .dict a=some t):wpAny (model W.prog W.w) A (call (.type "dict") [v]) (mi W F s t) E s:=by
 have hFn:¬ F s.heap.objs.size:=fun f=>by obtain ⟨o,q⟩:=hF _ f;exact f7 _ (ei q)
 have hnew:(s.heap.push (aL [] 0)).get? s.heap.objs.size=some (aL [] 0):=dH _ rfl
 have hT:Shared.TypeIs { s with heap:=s.heap.push (aL [] 0) } (.ref s.heap.objs.size) "dict":=⟨_,hnew,rfl⟩
 refine cps fun GG kk=>?_
 cases a with
 | list xs=>
  refine kk (eU e fun d hd z=>dy hd fun ps hps hput=>?_)
  subst z
  obtain ⟨vs,l,n,rfl,g,hl,r⟩:=x.list_inv
  have g':(s.heap.push (aL [] 0)).get? l=some (seqObj "list" vs.toArray n):=bU _ g
  refine callType_codes (Q₁:=fun obj s₁=>obj=.ref s.heap.objs.size∧s₁={ s with heap:=s.heap.push (aL [] 0) }) PySem.F.kt_called_dict (PySem.F.kt_typeCall_dict_1 _) PySem.F.entry_dict_init (kt_code_dict_new _ ⟨rfl,rfl⟩) ?_
  rintro obj s₁ ⟨rfl,rfl⟩
  refine ⟨hT,PySem.F.args_dict_init_2 _ _,?_⟩
  unfold Builtin.«dict.__init__»
  refine ac ?_
  unfold Builtin.Dict.selfAndRest
  refine ac (wpAny_notOrdered_dict hT ?_)
  show wpAny _ _ (pure (s.heap.objs.size,[Value.ref l])) _ _ _
  refine al ?_
  show wpAny _ _ (Builtin.Dict.updateFrom "dict.__init__" s.heap.objs.size (.ref l) [] .none) _ _ _
  unfold Builtin.Dict.updateFrom
  refine ac (wpAny_typeOf (T:="list") ⟨_,g',rfl⟩ ?_)
  rw [au (by decide)]
  refine ac (Mu (s:={ s with heap:=s.heap.push (aL [] 0) }) (show A.in1.in1.handled=none from hA) g' fun h'1 tk k'1=>?_)
  rw [au (by rfl)]
  refine ac (wpAny_rule ?_)
  refine ac (wpAny_pyIter_list (s:={ s with heap:=h'1,toks:=tk }) (pg (k'1 _ _ g')) ?_)
  have kp:∀ b o,s.heap.get? b=some o→h'1.get? b=some o:=fun b o e=>k'1 b o (bU _ e)
  have hIn:s.heap.get? h'1.objs.size=none:=by
   induction q:s.heap.get? h'1.objs.size with
   | none=>rfl
   | some o=>exact absurd (ei (kp _ _ q)) (f7 _)
  have hID:h'1.objs.size≠s.heap.objs.size:=fun q=>by
   have:=ei (k'1 _ _ hnew)
   rw [← q] at this
   exact f7 _ this
  obtain ⟨f1,f2⟩:=vt hput (by simp) (cr _)
  refine al ⟨plainId_quiet gO _,Ep (s:=s) (A:=A.in1) (I:=h'1.objs.size) (D:=s.heap.objs.size) (l:=l) (xs:=xs) (vs:=vs) (n:=n) (ps:=ps) (d:=d) hA (by show A.units+1+60 < cLine;lia) g r hps hF hIn (aS _) hID (fun s' es ep k e1 e2 gD rD nd' hl'=>?_) (xs.length+1) 0 _ [] [] 0 0 (by lia) (cr _) ⟨fun b o e=>?_,rfl,rfl,?_,?_,.nil,cJ,cr _,hput⟩⟩
  ·exact ⟨rfl,uw k e1 e2 hsys gD rD nd' hl'⟩
  ·exact bU _ (kp b o e)
  ·exact ⟨_,dH _ rfl,rfl,rfl⟩
  ·exact bU _ (k'1 _ _ hnew)
 | dict kvs=>
   refine kk (ifs e fun hc z=>?_)
   subst z
   obtain ⟨es,o,ep,rfl,g,hl,nd,hs,r⟩:=x.dict_inv
   have g':(s.heap.push (aL [] 0)).get? o=some (aL es ep):=bU _ g
   have r':cL W F (s.heap.push (aL [] 0)) kvs es:=r.mono (fun _ f=>f) fun a o _ e=>bU _ e
   refine callType_codes (Q₁:=fun obj s₁=>obj=.ref s.heap.objs.size∧s₁={ s with heap:=s.heap.push (aL [] 0) }) PySem.F.kt_called_dict (PySem.F.kt_typeCall_dict_1 _) PySem.F.entry_dict_init (kt_code_dict_new _ ⟨rfl,rfl⟩) ?_
   rintro obj s₁ ⟨rfl,rfl⟩
   refine ⟨hT,PySem.F.args_dict_init_2 _ _,?_⟩
   unfold Builtin.«dict.__init__»
   refine ac ?_
   unfold Builtin.Dict.selfAndRest
   refine ac (wpAny_notOrdered_dict hT ?_)
   show wpAny _ _ (pure (s.heap.objs.size,[Value.ref o])) _ _ _
   refine al ?_
   show wpAny _ _ (Builtin.Dict.updateFrom "dict.__init__" s.heap.objs.size (.ref o) [] .none) _ _ _
   unfold Builtin.Dict.updateFrom
   refine ac (wpAny_typeOf (T:="dict") ⟨_,g',rfl⟩ ?_)
   rw [av (by decide)]
   refine ac ?_
   unfold Builtin.Dict.merge
   refine ac ?_
   unfold Builtin.Dict.readDirectly
   refine ac (wpAny_isInstance (T:="dict") ⟨_,g',rfl⟩ isSubtype_dict_dict ?_)
   simp only [Bool.not_true,Bool.false_eq_true,if_false]
   refine ac (wpAny_specialOf (T:="dict") ⟨_,g',rfl⟩ PySem.F.slot_dict_iter.lookup (al ?_))
   simp only [beq_self_eq_true,if_true]
   refine ac (al ?_)
   refine H5 (s:={ s with heap:=s.heap.push (aL [] 0) }) (F:=F) (by show A.units+1+1 < cLine;lia) hFn (fun q=>f7 _ (q▸ei g)) hs g' hnew r' nd hl hc fun es' ep' h' tk gD hb rD=>?_
   refine ac (m:=Builtin.Dict.addKeywords s.heap.objs.size []) (al ?_)
   refine al ⟨rfl,uw (fun b o e=>(hb.2 b (fun q=>f7 _ (q▸ei e))).trans (bU _ e)) rfl rfl hsys gD rD nd hl⟩
 | _=>exact nn e
end
end
section
set_option backward.match.sparseCases true
section
variable {W:Wd} {F:Addr→Prop} {s:Shared} {A:Around} {E:Value→Shared→Prop}
theorem KU {op:Operator} {a b t:T} {va vb:Value} (hA:A.handled=none) (hu:A.units+100 < cLine) (x:VR W F s.heap a va) (y:VR W F s.heap b vb) (e:s8 op a b=some t):wpAny (model W.prog W.w) A (binaryOp op va vb) (fy W F s t) E s:=by
 refine cps fun G k=>?_
 cases a with
 | int i=>
  refine k (dy e fun j hj e=>?_)
  obtain ⟨u,rfl⟩:=x.q.int_inv;obtain ⟨v,rfl⟩:=(cB hj▸y).q.int_inv;exact Eg e
 | tup xs=>
  exact k (dy e fun ys hy e=>sD e fun ho e=>ifs e fun l z=>by
   induction op with
   | Add=>rw [z];exact F2 x (qS hy▸y) l
   | _=>exact bt ho)
 | list xs=>
  exact k (dy e fun ys hy e=>sD e fun ho e=>ifs e fun l z=>by
   induction op with
   | Add=>rw [z];exact ax (x6 x.q (et hy▸y).q l) (fun _ _ z=>z.res) am
   | _=>exact bt ho)
 | set xs=>
  exact k (dy e fun ys hy e=>sD e fun ho e=>ifs e fun l z=>by
   induction op with
   | BitOr=>rw [z];exact Hp x (LU hy▸y) l
   | _=>exact bt ho)
 | _=>exact nn e
end
theorem lL {keep:List Value} {Q:Unit→Shared→Prop} (h:Q () s):wpAny M A (release vs keep) Q E s:=fun Γ p _=>by rw [Sem.wp_release];exact h
theorem aW {o:Option α} {Q:α→Prop} (q:fX o Q):∃ a,o=some a∧Q a:=by
 induction o with
 | none=>exact q.elim
 | some a=>exact ⟨a,rfl,q⟩
section
variable {W:Wd} {C:aC} {n:Nat} {sc:Scope}
theorem LH {op:Operator} {l r:Expr} {dl dr:SE} (hl:cX W C n sc (eval l) dl) (hr:cX W C n sc (eval r) dr):cX W C n sc (eval (.BinOp l op r pos)) (cx op dl dr):=by
 intro A env F G ρ s Q E hA S st q
 refine wpAny_BinOp (ax (hl A env F G ρ s _ E hA S st q) (fun a s₁ h'1=>?_) am)
 obtain ⟨ta,F'1,ρ1,q,st1,y'1,ra⟩:=h'1
 refine ax (hr A env F'1 G ρ1 s₁ _ E hA S st1 q) (fun b s₂ h'2=>?_) am
 obtain ⟨tb',F'2,ρ2,q,st2,y'2,rb⟩:=h'2
 obtain ⟨t,ht,q⟩:=aW q
 exact ax (KU hA.handled hA.u (y'2.step.vr st1 ra) rb ht) (fun v s'3 h'3=>h'3.epost (y'1.trans y'2) st2 q) am
theorem C9 {x:Expr} {d:SE} (h:cX W C n sc (eval x) d):cX W C n sc (eval (.UnaryOp .USub x pos)) (sK d):=by
 intro A env F G ρ s Q E hA S st q
 rw [arm_eval_UnaryOp]
 refine ac (ax (h A env F G ρ s _ E hA S st q) (fun a s₁ h'1=>?_) am)
 obtain ⟨ta,F'1,ρ1,q,st1,y'1,ra⟩:=h'1
 obtain ⟨t,ht,q⟩:=aW q
 exact ac (dJ (b4 (ax (JZ ht ra) (fun v s'3 h'3=>h'3.epost y'1 st1 q) am)))
theorem OW {p q:Prop}:bq true p q=p:=rfl
theorem OL {p q:Prop}:bq false p q=q:=rfl
theorem MK {test body orelse:Expr} {c:SB} {a b:SE} (hc:nS W C n sc (fun env=>isTrue test env (eval test env)) c) (ha:cX W C n sc (eval body) a) (hb:cX W C n sc (eval orelse) b) :
  cX W C n sc (eval (.IfExp test body orelse pos)) (iX c a b):=by
 intro A env F G ρ s Q E hA S st q
 rw [arm_eval_IfExp]
 refine ac (ax (hc A env F G ρ s _ E hA S st q) (fun t s₁ h'1=>?_) am)
 obtain ⟨F'1,ρ1,q,st1,y'1⟩:=h'1
 induction t with
 | true=>exact ax (ha A env F'1 G ρ1 s₁ _ E hA S st1 q) (fun _ _ z=>z.after y'1) am
 | false=>exact ax (hb A env F'1 G ρ1 s₁ _ E hA S st1 q) (fun _ _ z=>z.after y'1) am
theorem Co {op:BoolOp} {x r:Expr} {dx dr:SE} (hx:cX W C n sc (eval x) dx) (hr:cX W C n sc (eval r) dr) :
  cX W C n sc (eval (.BoolOp op [x,r] pos)) (match op with | .And=>LB dx dr | .Or=>O0 dx dr):=by
 intro A env F G ρ s Q E hA S st q
 rw [arm_eval_BoolOp]
 show wpAny _ _ (do
  let v ← eval x env
  standAt pos
  let t ← holding [v] (truthy v)
  match op,t with
  | .And,false | .Or,true=>pure v
  | _,_=>eval r env) _ _ _
 induction op with
 | And=>
  refine ac (ax (hx A env F G ρ s _ E hA S st q) (fun a s₁ h'1=>?_) am)
  obtain ⟨ta,F'1,ρ1,q,st1,y'1,ra⟩:=h'1
  obtain ⟨b,hb,q⟩:=aW q
  refine ac (dJ (ac (b4 (ax (qU ra.q hb) (fun b' s₂ h'2=>?_) am))))
  obtain ⟨rfl,tk,rfl⟩:=h'2
  obtain ⟨st2,y'2⟩:=st1.toks tk
  induction b' with
  | true=>exact ax (hr A env F'1 G ρ1 _ _ E hA S st2 q) (fun _ _ z=>z.after (y'1.trans y'2)) am
  | false=>exact al ⟨ta,F'1,ρ1,q,st2,y'1.trans y'2,ra⟩
 | Or=>
  refine ac (ax (hx A env F G ρ s _ E hA S st q) (fun a s₁ h'1=>?_) am)
  obtain ⟨ta,F'1,ρ1,q,st1,y'1,ra⟩:=h'1
  obtain ⟨b,hb,q⟩:=aW q
  refine ac (dJ (ac (b4 (ax (qU ra.q hb) (fun b' s₂ h'2=>?_) am))))
  obtain ⟨rfl,tk,rfl⟩:=h'2
  obtain ⟨st2,y'2⟩:=st1.toks tk
  induction b' with
  | true=>exact al ⟨ta,F'1,ρ1,q,st2,y'1.trans y'2,ra⟩
  | false=>exact ax (hr A env F'1 G ρ1 _ _ E hA S st2 q) (fun _ _ z=>z.after (y'1.trans y'2)) am
noncomputable def FR (op:CmpOp) (r:Expr):Prop:=behindInMarks op r=false∨∃ es k p,r=.Set es k p
theorem FR.r {r:Expr} (h:behindInMarks op r=false):FR op r:=.inl h
theorem GU {r:Expr}:FR op r:=by
 cases r with
 | Set es k p=>exact .inr ⟨es,k,p,rfl⟩
 | _=>exact .r rfl
theorem vO {r:Expr} (h:∀ es k p,r≠.Set es k p):behindInMarks op r=false:=GU.resolve_right fun ⟨es,k,p,e⟩=>h es k p e
theorem Ft {l r:Expr} {dl:SE} (hl:cX W C n sc (eval l) dl) (hr:Gm W C n sc (eval r) o) {A env F G ρ s E} {Q:Bool→Env→Prop} (hA:sQ n A) (S:dg W sc env G) (st:St W F G ρ s) (q:aD op dl o C ρ Q) :
  wpAny (model W.prog W.w) A (eval l env) (fun a s₁=>wpAny (model W.prog W.w) A (eval r env) (fun b s₂=>wpAny (model W.prog W.w) A (compareOp op a b) (fun v s'3=>∃ t F' ρ',Q t ρ'∧v=.bool t∧St W F' G ρ' s'3∧b2 F G ρ s F' ρ' s'3) E s₂) E s₁) E s:=by
 refine ax (hl A env F G ρ s _ E hA S st q) (fun a s₁ h'1=>?_) am
 obtain ⟨ta,F'1,ρ1,q,st1,y'1,ra⟩:=h'1
 refine ax (hr A env F'1 G ρ1 s₁ _ E hA S st1 q) (fun b s₂ h'2=>?_) am
 obtain ⟨tb',F'2,ρ2,q,st2,y'2,rb⟩:=h'2
 obtain ⟨t,ht,q⟩:=aW q
 refine ax (y3 hA.u (y'2.step.vr st1 ra).q rb ht) (fun v s'3 h'3=>?_) am
 obtain ⟨rfl,tk,rfl⟩:=h'3
 obtain ⟨st3,y'3⟩:=st2.toks tk
 exact ⟨t,F'2,ρ2,q,rfl,st3,(y'1.trans y'2).trans y'3⟩
theorem MD {l r:Expr} {dl:SE} (hm:∀ es k p,r≠.Set es k p) (hl:cX W C n sc (eval l) dl) (hr:Gm W C n sc (eval r) o):cX W C n sc (eval (.Compare l [op] [r] pos)) (gV op dl o):=by
 intro A env F G ρ s Q E hA S st q
 refine wpAny_Compare1 (ax (Ft hl hr hA S st q) (fun a s₁ h'1=>ax h'1 (fun b s₂ h'2=>ax h'2 (fun v s'3 h'3=>?_) am) am) am) (vO hm)
 obtain ⟨t,F',ρ',q,rfl,st',y⟩:=h'3
 exact ⟨_,F',ρ',q,st',y,.bool t⟩
theorem IV {l r:Expr} {dl:SE} (hm:∀ es k p,r≠.Set es k p) (hl:cX W C n sc (eval l) dl) (hr:Gm W C n sc (eval r) o) :
  nS W C n sc (fun env=>isTrue (.Compare l [op] [r] pos) env (eval (.Compare l [op] [r] pos) env)) (aD op dl o):=by
 intro A env F G ρ s Q E hA S st q
 refine wpAny_isTrue_Compare1 (ax (Ft hl hr hA S st q) (fun a s₁ h'1=>ax h'1 (fun b s₂ h'2=>ax h'2 (fun v s'3 h'3=>?_) am) am) am) (vO hm)
 obtain ⟨t,F',ρ',q,rfl,st',y⟩:=h'3
 exact wpAny_truthy_bool ⟨F',ρ',q,st',y⟩
theorem D3 {op':CmpOp} {l m r:Expr} {dl dm dr:SE} (hr':∀ es k p,r≠.Set es k p) (hl:cX W C n sc (eval l) dl) (hm:cX W C n sc (eval m) dm) (hr:cX W C n sc (eval r) dr) :
  nS W C n sc (fun env=>isTrue (.Compare l [op,op'] [m,r] pos) env (eval (.Compare l [op,op'] [m,r] pos) env)) (nj op op' dl dm dr):=by
 intro A env F G ρ s Q E hA S st q
 show wpAny _ _ (isTrue (.Compare l [op,op'] [m,r] pos) env _) _ _ _
 rw [arm_isTrue_Compare]
 have e0:markedEach [op,op'] [m,r] (evalEach [m,r] env)=[eval m env,eval r env]:=by
  show [eval m env,markedBehindIn op' r (eval r env)]=_
  rw [markedBehindIn_of_false (vO hr')]
 rw [e0]
 refine ac (ax (hl A env F G ρ s _ E hA S st q) (fun a s₁ h'1=>?_) am)
 obtain ⟨ta,F'1,ρ1,q,st1,y'1,ra⟩:=h'1
 show wpAny _ _ (do
  let rv ← holding [a] (eval m env)
  standAt pos
  let c ← holding [a,rv] (compareOp op a rv)
  release [a,rv] [c]
  if ← holding [c,rv] (truthy c) then (do
   let rv' ← holding [rv] (eval r env)
   standAt pos
   let c ← operate [rv,rv'] (compareOp op' rv rv')
   holding [c] (truthy c)) else pure false) _ _ _
 refine ac (b4 (ax (hm A env F'1 G ρ1 s₁ _ E hA S st1 q) (fun b s₂ h'2=>?_) am))
 obtain ⟨tb',F'2,ρ2,q,st2,y'2,rb⟩:=h'2
 obtain ⟨t,ht,q⟩:=aW q
 refine ac (dJ (ac (b4 (ax (y3 hA.u (y'2.step.vr st1 ra).q rb.q ht) (fun v s'3 h'3=>?_) am))))
 obtain ⟨rfl,tk,rfl⟩:=h'3
 obtain ⟨st3,y'3⟩:=st2.toks tk
 refine ac (lL (ac (b4 (wpAny_truthy_bool ?_))))
 induction t with
 | false=>exact al ⟨F'2,ρ2,q,st3,(y'1.trans y'2).trans y'3⟩
 | true=>
  refine ac (b4 (ax (hr A env F'2 G ρ2 _ _ E hA S st3 q) (fun c s'4 h'4=>?_) am))
  obtain ⟨tc,F'4,ρ4,q,st4,y'4,rc⟩:=h'4
  obtain ⟨u,hu,q⟩:=aW q
  refine ac (dJ (ac (wpAny_operating (ax (y3 hA.u (y'4.step.vr st3 rb).q rc.q hu) (fun v s'5 h'5=>?_) am))))
  obtain ⟨rfl,tk',rfl⟩:=h'5
  obtain ⟨st5,y'5⟩:=st4.toks tk'
  exact b4 (wpAny_truthy_bool ⟨F'4,ρ4,q,st5,(((y'1.trans y'2).trans y'3).trans y'4).trans y'5⟩)
end
end
section
section
variable {W:Wd} {C:aC} {n:Nat} {sc:Scope}
theorem GQ {x:Expr} {d:SB} (h:nS W C n sc (fun env=>isTrue x env (eval x env)) d):nS W C n sc (fun env=>isTrue (.UnaryOp .Not x pos) env (eval (.UnaryOp .Not x pos) env)) (rF d):=by
 intro A env F G ρ s Q E hA S st q
 exact wpAny_isTrue_Not (ax (h A env F G ρ s _ E hA S st q) (fun b s₁ ⟨x,y,h1,h2,h3⟩=>⟨x,y,h1,h2,h3⟩) am)
theorem HY {op:BoolOp}:nS W C n sc (fun env=>allTrue op [] env) (match op with | .And=>aH | .Or=>nz):=by
 intro A env F G ρ s Q E hA S st q
 show wpAny _ _ (allTrue op [] env) _ _ _
 rw [arm_allTrue_nil]
 induction op<;>exact al ⟨F,ρ,q,st,.refl⟩
theorem DS {op:BoolOp} {e:Expr} {a r:SB} (h:nS W C n sc (fun env=>isTrue e env (eval e env)) a) (hr:nS W C n sc (fun env=>allTrue op es env) r) :
  nS W C n sc (fun env=>allTrue op (e::es) env) (ER op a r):=by
 intro A env F G ρ s Q E hA S st q
 show wpAny _ _ (allTrue op (e::es) env) _ _ _
 rw [arm_allTrue_cons]
 induction op with
 | And=>
  refine ac (ax (h A env F G ρ s _ E hA S st q) (fun b s₁ h'1=>?_) am)
  obtain ⟨F'1,ρ1,q,st1,y'1⟩:=h'1
  induction b with
  | true=>exact ax (hr A env F'1 G ρ1 s₁ _ E hA S st1 q) (fun _ _ z=>z.after y'1) am
  | false=>exact al ⟨F'1,ρ1,q,st1,y'1⟩
 | Or=>
  refine ac (ax (h A env F G ρ s _ E hA S st q) (fun b s₁ h'1=>?_) am)
  obtain ⟨F'1,ρ1,q,st1,y'1⟩:=h'1
  induction b with
  | true=>exact al ⟨F'1,ρ1,q,st1,y'1⟩
  | false=>exact ax (hr A env F'1 G ρ1 s₁ _ E hA S st1 q) (fun _ _ z=>z.after y'1) am
theorem GT {test body orelse:Expr} {c a b:SB} (hc:nS W C n sc (fun env=>isTrue test env (eval test env)) c) (ha:nS W C n sc (fun env=>isTrue body env (eval body env)) a) (hb:nS W C n sc (fun env=>isTrue orelse env (eval orelse env)) b) :
  nS W C n sc (fun env=>isTrue (.IfExp test body orelse pos) env (eval (.IfExp test body orelse pos) env)) (JD c a b):=by
 intro A env F G ρ s Q E hA S st q
 show wpAny _ _ (isTrue (.IfExp test body orelse pos) env _) _ _ _
 rw [arm_isTrue_IfExp]
 refine ac (ax (hc A env F G ρ s _ E hA S st q) (fun t s₁ h'1=>?_) am)
 obtain ⟨F'1,ρ1,q,st1,y'1⟩:=h'1
 induction t with
 | true=>exact ax (ha A env F'1 G ρ1 s₁ _ E hA S st1 q) (fun _ _ z=>z.after y'1) am
 | false=>exact ax (hb A env F'1 G ρ1 s₁ _ E hA S st1 q) (fun _ _ z=>z.after y'1) am
theorem Bn {e:Expr} (h:Gm W C n sc (eval e) o) (he:∀ env,isTrue e env (eval e env)=(do let v ← eval e env;standAt e.pos;holding [v] (truthy v))):nS W C n sc (fun env=>isTrue e env (eval e env)) (cQ o):=by
 intro A env F G ρ s Q E hA S st q
 refine wpAny_isTrue_value (ax (h A env F G ρ s _ E hA S st q) (fun v s₁ h'1=>?_) am) (he env)
 obtain ⟨t,F'1,ρ1,q,st1,y'1,r⟩:=h'1
 obtain ⟨b,hb,q⟩:=aW q
 refine ax (qU r hb) (fun b' s₂ h'2=>?_) am
 obtain ⟨rfl,tk,rfl⟩:=h'2
 obtain ⟨st2,y'2⟩:=st1.toks tk
 exact ⟨F'1,ρ1,q,st2,y'1.trans y'2⟩
theorem IZ:xZ W C n sc [] ak:=by
 intro pos A env F G ρ s Q E hA S st q
 exact Calls.spliced_nil ⟨[],F,ρ,rfl,q,st,.refl,.nil⟩
theorem dA {e:Expr} (h:cZ e=true):backTo pos (starEach (e::es) env)=(false,eval e env)::backTo pos (starEach es env):=by
 cases e<;>first | rfl | exact absurd h bO
theorem DF {e:Expr} {d:SE} (hn:cZ e=true) (h:cX W C n sc (eval e) d) (hs:xZ W C n sc es ds):xZ W C n sc (e::es) (aa d ds):=by
 intro pos A env F G ρ s Q E hA S st q
 rw [dA hn]
 refine Calls.spliced_cons (ax (h A env F G ρ s _ E hA S st q) (fun v s₁ h'1=>?_) am)
 obtain ⟨t,F'1,ρ1,q,st1,y'1,r⟩:=h'1
 refine ax (hs pos A env F'1 G ρ1 s₁ _ E hA S st1 q) (fun vs s₂ h'2=>?_) am
 obtain ⟨ts,F'2,ρ2,hl,q,st2,y'2,rs⟩:=h'2
 exact ⟨t::ts,F'2,ρ2,by rw [eH,eH,hl],q,st2,y'1.trans y'2,.cons (y'2.step.vr st1 r) rs⟩
theorem FP (hm:many es=true) (h:xZ W C n sc es ds):sA W C n sc (eval (.List es pos)) (bM ds):=by
 intro A env F G ρ s Q E hA S st q
 rw [arm_eval_List]
 refine ac (dJ (ac (ax (h pos A env F G ρ s _ E hA S st q) (fun vs s₁ h'1=>?_) am)))
 obtain ⟨ts,F'1,ρ1,hl,q,st1,y'1,r⟩:=h'1
 unfold many at hm
 rw [bC,decide_eq_true_eq] at hm
 have:SZ=1048576:=rfl
 have hv:=r.length
 refine wpAny_newList ?_ (by have:=gz;lia)
 exact (mi.list (tk:=s₁.toks) (n:=0) r (by lia)).opost y'1 st1 q
theorem KV (hm:many es=true) (h:xZ W C n sc es ds):cX W C n sc (eval (.Tuple es k pos)) (aO ds):=by
 intro A env F G ρ s Q E hA S st q
 rw [arm_eval_Tuple]
 refine ac (dJ (ac (ax (h pos A env F G ρ s _ E hA S st q) (fun vs s₁ h'1=>?_) am)))
 obtain ⟨ts,F'1,ρ1,hl,q,st1,y'1,r⟩:=h'1
 unfold many at hm
 rw [bC,decide_eq_true_eq] at hm
 have:SZ=1048576:=rfl
 have hv:=r.length
 refine wpAny_newTuple ?_ (by have:=gz;lia)
 exact (fy.tup (tk:=s₁.toks) (n:=0) r (by lia)).epost y'1 st1 q
theorem Kx {o i t:T} {vo:Value} {Q:Bool→Shared→Prop} (x:dZ W F s.heap o vo) (e:getItem o i=some t∨∃ lo hi,cutT o lo hi=some t) (q:Q false s):wpAny (model W.prog W.w) A (getitemInPython vo) Q E s:=by
 have fin:∀ {T id},s.TypeIs vo T→typeLookup (.type T) "__getitem__"=pure (some (.builtin id))→wpAny (model W.prog W.w) A (getitemInPython vo) Q E s:=fun hT hl=>by
  rw [getitemInPython_of_ne hT.not_modules]
  refine ac (wpAny_specialOf hT hl ?_)
  exact al q
 cases o with
 | list xs=>obtain ⟨vs,a,n,rfl,g,l,r⟩:=x.list_inv;exact fin (pg g).typeIs slot_list_getitem.lookup
 | tup xs=>obtain ⟨vs,a,n,rfl,g,l,r⟩:=x.tup_inv;exact fin (CL g).typeIs slot_tuple_getitem.lookup
 | dict kvs=>obtain ⟨es,d,ep,rfl,g,_,_,sy,r⟩:=x.dict_inv;exact fin (aA g) slot_dict_getitem.lookup
 | _=>
  rcases e with e | ⟨lo,hi,e⟩
  ·exact nomatch (show (none:Option T)=some t from e)
  ·exact nomatch (show (none:Option T)=some t from e)
theorem Mt {slice:Expr} {vo vi:Value}:∃ l,subscripted slice false vo vi=operate l (PySem.getItem vo vi):=by
 cases slice with
 | Slice a b c p=>induction c<;>exact ⟨_,rfl⟩
 | _=>exact ⟨_,rfl⟩
theorem qe {slice:Expr} {o i t:T} {vo vi:Value} (x:dZ W F s.heap o vo) (e:getItem o i=some t∨∃ lo hi,cutT o lo hi=some t)
  (h:wpAny (model W.prog W.w) A (PySem.getItem vo vi) Q E s):wpAny (model W.prog W.w) A (subscriptTail value slice vo vi) Q E s:=by
 unfold subscriptTail
 refine ac (Kx x e ?_)
 obtain ⟨l,e⟩:∃ l,subscripted slice false vo vi=operate l (PySem.getItem vo vi):=Mt
 rw [e]
 exact ac (wpAny_operating (ax h (fun r s'3 h'3=>ac (wpAny_letTemporaryGo (al h'3))) am))
theorem nL:(∃ x p i,value=.Name x p∧cR sc x=true∧tb.id x=some i∧bf tb sc value (bA tb sc value)=.v i)∨bf tb sc value (bA tb sc value)=.e (bA tb sc value):=by
 induction q:oP tb sc value with
 | none=>exact .inr (by unfold bf;rw [q])
 | some i=>exact kg q fun x p e ho hi=>.inl ⟨x,p,i,e,ho,hi,by unfold bf;rw [q]⟩
theorem ck {i:Nm} {e:bY} (h:first G i=some e):e∈G:=List.mem_of_find?_eq_some h
theorem St.bound (st:St W F G ρ s) {e:bY} (hf:first G i=some e) (hb:isB (ρ.get i)):∃ v,e.pl.Holds s.heap (some v):=by
 have lk:=st.look hf
 induction h:ρ.get i with
 | unb=>rw [h] at hb;exact hb.elim
 | val t=>rw [h] at lk;obtain ⟨v,hv,_⟩:=lk;exact ⟨v,hv⟩
 | own fx t=>rw [h] at lk;obtain ⟨v,hv,_⟩:=lk;exact ⟨v,hv⟩
theorem KZ {slice:Expr} {di:SE} (hv:cX W C n sc (eval value) (bA tb sc value)) (hi:cX W C n sc (eval slice) di):cX W C n sc (eval (.Subscript value slice pos)) (aZ (bf tb sc value (bA tb sc value)) di):=by
 intro A env F G ρ s Q E hA S st q
 rcases nL (sc:=sc) (value:=value) with ⟨x,p,j,rfl,ho,hj,e⟩ | e
 ·rw [e] at q
  obtain ⟨en,hf,ld⟩:=S.loads ho (dj hj)
  obtain ⟨hb,q⟩:=q
  obtain ⟨v,hv'⟩:=st.bound hf hb
  refine Subscript_ (ld hv' ?_)
  refine ax (hi A env F G ρ s _ E hA S st q) (fun vi s₂ h'2=>?_) am
  obtain ⟨ti,F'2,ρ2,q,st2,y'2,ri⟩:=h'2
  obtain ⟨to,v',q,hv2,ro⟩:=st2.peek hf q
  have hvv:v=v':=az ((hv'.keep fun o=>y'2.pl en (ck hf) o).inj hv2)
  subst hvv
  obtain ⟨t,ht,q⟩:=aW q
  exact qe ro (.inl ht) (ax (r8 (by have:=hA.u;lia) ro ri.q ht) (fun v s'3 h'3=>h'3.epost y'2 st2 q) am)
 ·rw [e] at q
  refine Subscript_ (ax (hv A env F G ρ s _ E hA S st q) (fun vo s₁ h'1=>?_) am)
  obtain ⟨to,F'1,ρ1,q,st1,y'1,ro⟩:=h'1
  refine ax (hi A env F'1 G ρ1 s₁ _ E hA S st1 q) (fun vi s₂ h'2=>?_) am
  obtain ⟨ti,F'2,ρ2,q,st2,y'2,ri⟩:=h'2
  obtain ⟨t,ht,q⟩:=aW q
  have ro':=(y'2.step.vr st1 ro).q
  exact qe ro' (.inl ht) (ax (r8 (by have:=hA.u;lia) ro' ri.q ht) (fun v s'3 h'3=>h'3.epost (y'1.trans y'2) st2 q) am)
theorem se {lo hi:Option Expr}:eval (.Slice lo hi none p) env=(do
  let l ← valueOrNone (evalOpt lo env)
  let u ← holding [l] (valueOrNone (evalOpt hi env))
  let s ← holding [l,u] (valueOrNone (evalOpt none env))
  newFields "slice" [l,u,s]):=rfl
theorem wU {l u:Value} (q:Q (.ref s.heap.objs.size) { s with heap:=s.heap.push (zt l u .none) }):wpAny M A (newFields "slice" [l,u,.none]) Q E s:=
 gT q
theorem FS {hi:Expr} {dv dh:SE} (hv:cX W C n sc (eval value) dv) (hh:cX W C n sc (eval hi) dh):cX W C n sc (eval (.Subscript value (.Slice none (some hi) none p) pos)) (u7 dv dh):=by
 intro A env F G ρ s Q E hA S st q
 refine Subscript_ (ax (hv A env F G ρ s _ E hA S st q) (fun vo s₁ h'1=>?_) am)
 obtain ⟨to,F'1,ρ1,q,st1,y'1,ro⟩:=h'1
 rw [se]
 show wpAny _ _ (pure Value.none >>= _) _ _ _
 refine ac (al (ac (b4 (ax (hh A env F'1 G ρ1 s₁ _ E hA S st1 q) (fun vi s₂ h'2=>?_) am))))
 obtain ⟨ti,F'2,ρ2,q,st2,y'2,ri⟩:=h'2
 obtain ⟨h,hh',q⟩:=aW q
 obtain ⟨t,ht,qf⟩:=aW q
 clear q
 refine ac (b4 (al (wU ?_)))
 have hti:=cB hh'
 subst hti
 obtain ⟨u,rfl⟩:=ri.q.int_inv
 have g:cf F'2 s₂ F'2 { s₂ with heap:=s₂.heap.push (zt .none (.int h u) .none) }:=cf.push F'2 _ s₂.toks
 obtain ⟨st3,y'3⟩:=st2.grow g
 have ro':=(y'2.step.vr st1 ro).grow g
 exact qe (i:=.none) ro'.q (.inr ⟨_,_,ht⟩) (ax (L8 ro' (Heap.IsSliceOf.new ..) ht) (fun v s'3 h'3=>h'3.epost ((y'1.trans y'2).trans y'3) st3 qf) am)
theorem Lj {lo hi:Expr} {dv dl dh:SE} (hv:cX W C n sc (eval value) dv) (hl:cX W C n sc (eval lo) dl) (hh:cX W C n sc (eval hi) dh):cX W C n sc (eval (.Subscript value (.Slice (some lo) (some hi) none p) pos)) (Ks dv dl dh):=by
 intro A env F G ρ s Q E hA S st q
 refine Subscript_ (ax (hv A env F G ρ s _ E hA S st q) (fun vo s₁ h'1=>?_) am)
 obtain ⟨to,F'1,ρ1,q,st1,y'1,ro⟩:=h'1
 rw [se]
 refine ac (ax (hl A env F'1 G ρ1 s₁ _ E hA S st1 q) (fun vl s₂ h'2=>?_) am)
 obtain ⟨tl,F'2,ρ2,q,st2,y'2,rl⟩:=h'2
 refine ac (b4 (ax (hh A env F'2 G ρ2 s₂ _ E hA S st2 q) (fun vi s'3 h'3=>?_) am))
 obtain ⟨ti,F'3,ρ3,q,st3,y'3,ri⟩:=h'3
 obtain ⟨l,hl',q⟩:=aW q
 obtain ⟨h,hh',q⟩:=aW q
 obtain ⟨t,ht,qf⟩:=aW q
 clear q
 refine ac (b4 (al (wU ?_)))
 have hti:=cB hh'
 have htl:=cB hl'
 subst hti;subst htl
 obtain ⟨u,rfl⟩:=ri.q.int_inv
 obtain ⟨u',rfl⟩:=rl.q.int_inv
 have g:cf F'3 s'3 F'3 { s'3 with heap:=s'3.heap.push (zt (.int l u') (.int h u) .none) }:=cf.push F'3 _ s'3.toks
 obtain ⟨st4,y'4⟩:=st3.grow g
 have ro':=(y'3.step.vr st2 (y'2.step.vr st1 ro)).grow g
 exact qe (i:=.none) ro'.q (.inr ⟨_,_,ht⟩) (ax (GL ro' (Heap.IsSliceOf.new ..) ht) (fun v s'5 h'5=>h'5.epost (((y'1.trans y'2).trans y'3).trans y'4) st4 qf) am)
theorem Ds (hw:gZ W) {h:Heap} (hk:∀ b o,W.h0.get? b=some o→h.get? b=some o) (ha:h.get? a=none):(a==sysModules)=false:=by
 obtain ⟨o,ho⟩:=hw.sys
 exact eF.mpr fun e=>by subst e;rw [hk _ _ ho] at ha;exact nomatch ha
theorem C1 (hw:gZ W) (hk:∀ b o,W.h0.get? b=some o→s.heap.get? b=some o) {tk:Nat}:mi W F s (.dict []) (.ref s.heap.objs.size) { s with heap:=s.heap.push (aL [] 0),toks:=tk }:=
 ⟨[s.heap.objs.size],cf.push F _ tk,.dict rfl (dH _ rfl) (cr _) ⟨cJ,Ds hw hk (aS _)⟩ .nil,by simp,fun a h=>by rw [aV.mp h];exact aS _⟩
theorem Cp (hw:gZ W):sA W C n sc (eval (.Dict [] [] pos)) dN:=by
 intro A env F G ρ s Q E hA S st q
 rw [arm_eval_Dict]
 refine ac (dJ ?_)
 show wpAny _ _ (newDict) _ _ _
 refine gT ?_
 exact (C1 hw st.world (tk:=s.toks)).opost .refl st q
theorem AR (hw:gZ W) {k v:Expr} {dk dv:SE} (hk:cX W C n sc (eval k) dk) (hv:cX W C n sc (eval v) dv):sA W C n sc (eval (.Dict [some k] [v] pos)) (rX dk dv):=by
 intro A env F G ρ s Q E hA S st q
 rw [arm_eval_Dict]
 refine ac (dJ ?_)
 have e0:dictDisplay ((evalEachOpt [some k] env).zip ((evalEach [v] env).map fun v=>do let x ← v;standAt pos;pure x))=(do let d ← subDict [(eval k env,do let x ← eval v env;standAt pos;pure x)];pure (.ref d)):=
  dictDisplay_pairs [(eval k env,do let x ← eval v env;standAt pos;pure x)] (by simp) (by simp)
 rw [e0]
 unfold subDict
 refine ac (ac (wpAny_alloc ?_))
 obtain ⟨st1,y'1⟩:=st.grow (s':={ s with heap:=s.heap.push (aL [] 0) }) (cf.push F (aL [] 0) s.toks)
 have hn:s.heap.get? s.heap.objs.size=none:=aS _
 have hg:({ s with heap:=s.heap.push (aL [] 0) }:Shared).heap.get? s.heap.objs.size=some (aL [] 0):=dH _ rfl
 refine ac (b4 ?_)
 rw [au (by simp)]
 unfold evalPairs
 refine ac (ac (ax (hk A env F G ρ _ _ E hA S st1 q) (fun vk s₂ h'2=>?_) am))
 obtain ⟨tk,F'2,ρ2,q,st2,y'2,rk⟩:=h'2
 refine ac (b4 (ac (ax (hv A env F'2 G ρ2 s₂ _ E hA S st2 q) (fun vv s'3 h'3=>ac (dJ (al ?_))) am)))
 obtain ⟨tv,F'3,ρ3,q,st3,y'3,rv⟩:=h'3
 obtain ⟨key,hkey,q⟩:=aW q
 unfold evalPairs
 refine ac (b4 (al (al ?_)))
 refine b4 ?_
 show wpAny _ _ (forIn [(vk,vv)] _ _ >>= _) _ _ _
 rw [List.forIn_cons]
 have y13:=(y'1.trans y'2).trans y'3
 obtain ⟨o1,o2⟩:=mn st y13 hn
 obtain ⟨p1,p2⟩:=mn st y'1 hn
 obtain ⟨p3,p4⟩:=mn st (y'1.trans y'2) hn
 have hg'2:s₂.heap.get? s.heap.objs.size=some (aL [] 0):=y'2.step.keep _ _ hg p1 p2
 have hg3:s'3.heap.get? s.heap.objs.size=some (aL [] 0):=y'3.step.keep _ _ hg'2 p3 p4
 have nF:¬ F'3 s.heap.objs.size:=fun f=>by
  rcases y'3.step.freshF _ f with z | z | z
  ·rcases y'2.step.freshF _ z with z | z | z
   ·obtain ⟨o,h⟩:=st.live _ z;rw [hn] at h;exact nn h
   ·rw [hg] at z;exact nomatch z
   ·exact p1 z
  ·rw [hg'2] at z;exact nomatch z
  ·exact p3 z
 have rk':=y'3.step.vr st2 rk
 refine ac (ac (ac (p6 (k:=key) (kvs:=[]) (t:=tv) (by have:=hA.u;lia) nF hg3 .nil cJ rfl (by decide) (gJ hkey▸rk') rv fun es' ep' h' tk' hg' hs' r'=>al ?_)))
 show wpAny _ _ (forIn [] _ _) _ _ _
 rw [List.forIn_nil]
 refine al (al (al (al ?_)))
 have kp:∀ b o,b≠s.heap.objs.size→s'3.heap.get? b=some o→h'.get? b=some o:=fun b o hb e=>(hs'.2 b hb).trans e
 have lO:∀ a∈bk G ρ3,a≠s.heap.objs.size:=fun a m z=>o1 (z▸m)
 have st4:St W F'3 G ρ3 { s'3 with heap:=h',toks:=tk' }:=⟨st3.env.imp fun e he sl hsl r=>r.imp (fun v z=>z.keep fun o=>kp _ o (o2 e he)) (fun _ f=>f) fun a o c=>kp a o (fun z=>c.elim (fun f=>nF (z▸f)) fun m=>lO a (hsl a m) z),
  fun b o e=>kp b o (fun z=>by have:=st.world b o e;rw [z,hn] at this;exact nn this) (st3.world b o e),st3.base,fun a f=>let ⟨o,h⟩:=st3.live a f;⟨o,kp a o (fun z=>nF (z▸f)) h⟩,st3.places,st3.nodup,st3.ownF,st3.ownP,st3.plF,st3.new,st3.newP,st3.fix.imp fun e he v z=>z.keep fun o=>kp _ o (o2 e he)⟩
 have y'4:b2 F G ρ s F'3 ρ3 { s'3 with heap:=h',toks:=tk' }:=⟨⟨y13.step.gens,y13.step.os,y13.step.mono,fun b o e h1 h2=>kp b o (fun z=>by rw [z,hn] at e;exact nn e) (y13.step.keep b o e h1 h2),y13.step.freshF,y13.step.freshO,fun b hb=>by
   by_cases z:b=s.heap.objs.size
   ·rw [z];exact hn
   ·exact y13.step.lives b ((hs'.2 b z).symm.trans hb),y13.step.sh⟩,fun e he o h=>kp _ o (o2 e he) (y13.pl e he o h),y13.own⟩
 exact ⟨.dict [(key,tv)],F'3,ρ3,[s.heap.objs.size],q,st4,y'4,.dict rfl hg' (show 1≤SZ by decide) ⟨by simp,Ds hw st.world hn⟩ r',by simp,fun a h=>by rw [aV.mp h];exact ⟨hn,nF⟩⟩
end
end
section
section
variable {W:Wd} {F:Addr→Prop} {h:Heap}
theorem Ga {u:Tok} (hx:bm i x) (hy:bm j y):(Value.str y u).isStr x=(j==i):=by
 show (y==x)=_
 exact Bool.eq_iff_iff.mpr (bp.trans ((Iff.intro (fun z=>hy.inj (z▸hx)) fun z=>by subst z;exact hy.fn hx).trans bp.symm))
theorem A6 {p:Nat×T} {a:Nat}:wb (p::fs) a=if p.1==a then some p.2 else wb fs a:=by
 unfold wb;rw [List.find?_cons]
 cases p.1==a<;>rfl
inductive Fe (W:Wd) (F:Addr→Prop) (h:Heap):Option T→Option DictEntry→Prop where
 | some (t:T) (e:DictEntry) (r:VR W F h t e.val):Fe W F h (some t) (some e)
 | none:Fe W F h none none
theorem jG.find {a:Nat} (ha:bm a x):∀ {es:List DictEntry},jG W F h fs es→Fe W F h (wb fs a) (es.find? (·.key.isStr x)):=by
 induction fs with
 | nil=>intro es r;rw [r.inv0];exact .none
 | cons p fs ih=>
  intro es r
  obtain ⟨y,u,e,es,hn,hk,rv,rs⟩:=jG.inv (i:=p.1) (t:=p.2) r
  rw [A6,List.find?_cons,hk,Ga ha hn]
  induction p.1==a with
  | true=>exact .some _ _ rv
  | false=>exact ih rs
theorem jG.noRef:∀ {es:List DictEntry},jG W F h fs es→es.any (·.refKey)=false:=by
 induction fs with
 | nil=>intro es r;rw [r.inv0];rfl
 | cons p fs ih=>
  intro es r
  obtain ⟨y,u,e,es,hn,hk,_,rs⟩:=jG.inv (i:=p.1) (t:=p.2) r
  rw [List.any_cons,ih rs,Bool.or_false];unfold DictEntry.refKey;rw [hk]
inductive EW (W:Wd) (F:Addr→Prop) (h:Heap):Option T→Option (Option Value)→Prop where
 | some (t:T) (v:Value) (r:VR W F h t v):EW W F h (some t) (some (some v))
 | none:EW W F h none (some none)
theorem jG.look {es:List DictEntry} (r:jG W F h fs es) {a:Nat} (ha:bm a x):EW W F h (wb fs a) (lookIn x (aL es ep)):=by
 have n:=r.noRef
 have:=jG.find ha r
 have e:lookIn x (aL es ep)=match es.find? (·.key.isStr x) with
  | some e=>some (some e.val)
  | none=>if es.any (·.refKey) then none else some none:=by
  unfold lookIn
  simp
  rfl
 rw [e,n]
 generalize wb fs a=o at this ⊢
 generalize es.find? (·.key.isStr x)=o' at this ⊢
 induction this with
 | some t e r=>exact .some _ _ r
 | none=>exact .none
end
section
variable {W:Wd} {F:Addr→Prop} {s:Shared} {A:Around} {E:Value→Shared→Prop}
theorem Bq {t:T} {h:Heap} (x:VR W F h t v):handedIn v=true:=by
 cases t with
 | none=>rw [x.q.none_inv];rfl
 | bool _=>rw [x.q.bool_inv];rfl
 | int _=>obtain ⟨t,h⟩:=x.q.int_inv;rw [h];rfl
 | str _=>obtain ⟨y,t,h,_⟩:=x.q.str_inv;rw [h];rfl
 | tup _=>obtain ⟨_,_,_,h,_⟩:=x.tup_inv;rw [h];rfl
 | list _=>obtain ⟨_,_,_,h,_⟩:=x.list_inv;rw [h];rfl
 | dict _=>obtain ⟨_,_,_,h,_⟩:=x.q.dict_inv;rw [h];rfl
 | set _=>obtain ⟨_,h,_⟩:=x.q.set_inv;rw [h];rfl
 | dvals _=>obtain ⟨_,_,_,_,h,_⟩:=x.q.dvals_inv;rw [h];rfl
 | rng _=>obtain ⟨_,_,_,_,h,_⟩:=x.q.rng_inv;rw [h];rfl
 | inst _ _=>obtain ⟨_,_,_,_,h,_⟩:=x.q.inst_inv;rw [h];rfl
theorem vX {c:Nat} {es:List DictEntry} {dx:Addr} {h:Heap} (g:h.get? a=some (instObj (W.ca c) dx)) (g':h.get? dx=some (aL es ep)):InstAt h a (instObj (W.ca c) dx) (W.ca c) (some (aL es ep)):=
 ⟨g,rfl,rfl,g'⟩
theorem Hq (hw:gZ W) (hk:∀ b o,W.h0.get? b=some o→s.heap.get? b=some o) {o t:T} {a:Nat} (ha:bm a x) (r:dZ W F s.heap o v) (e:EF o a=some t):wpAny (model W.prog W.w) A (getAttr v x true) (fy W F s t) E s:=by
 refine dy e fun p hp e=>sD e fun hf e=>?_
 obtain ⟨es,ad,dx,ep,rfl,g,g',l,rr⟩:=(pW hp▸r).inst_inv
 have K:=hw.cls p.1 (tK hf)
 obtain ⟨cd,hcd,hd⟩:=K.cd
 have L:=rr.look (ep:=ep) ha
 rw [e] at L
 generalize q:lookIn x (aL es ep)=lk at L
 obtain ⟨_,v,h3⟩:=L
 refine get_value (hw.K.keeps hk) (vX g g') K.ga ?_ (Bq h3) (.of_toks h3)
 unfold findObj
 rw [hcd,fN,K.fld a x (fK.mp hf) ha,fN]
 show ((some none:Option (Option Value)).bind _)=_
 rw [fN]
 show ((some false:Option Bool).bind _)=_
 rw [fN]
 unfold PySem.W.ownOf
 rw [hd,au rfl]
 dsimp only
 rw [q]
 rfl
end
section
variable {W:Wd} {C:aC} {n:Nat} {sc:Scope}
noncomputable def q6 (o:Expr) (x:Str) (env:PySem.Env) (t:Sem Value):Prop:=fe o=true→attributeBase o x env t=t
theorem q6.r {o:Expr} {t:Sem Value} (h:attributeBase o x env t=t):q6 o x env t:=fun _=>h
theorem rL {o:Expr} {t:Sem Value}:q6 o x env t:=by
 refine Expr.casesOn (motive_1:=fun o=>q6 o x env t) o ?_ ?_ ?_ ?_ ?_ ?_ ?_ ?_ ?_ ?_ ?_ ?_ ?_ ?_ ?_ ?_ ?_ ?_ ?_ ?_ ?_ ?_ ?_ ?_ ?_ ?_ ?_<;>intros<;>first
  | exact .r rfl
  | skip
 induction args with
 | cons=>refine Expr.casesOn (motive_1:=fun f=>q6 (.Call f _ keywords pos) x env t) func ?_ ?_ ?_ ?_ ?_ ?_ ?_ ?_ ?_ ?_ ?_ ?_ ?_ ?_ ?_ ?_ ?_ ?_ ?_ ?_ ?_ ?_ ?_ ?_ ?_ ?_ ?_<;>intros<;>exact .r rfl
 | nil=>induction keywords with
  | cons=>refine Expr.casesOn (motive_1:=fun f=>q6 (.Call f [] _ pos) x env t) func ?_ ?_ ?_ ?_ ?_ ?_ ?_ ?_ ?_ ?_ ?_ ?_ ?_ ?_ ?_ ?_ ?_ ?_ ?_ ?_ ?_ ?_ ?_ ?_ ?_ ?_ ?_<;>intros<;>exact .r rfl
  | nil=>refine Expr.casesOn (motive_1:=fun f=>q6 (.Call f [] [] pos) x env t) func ?_ ?_ ?_ ?_ ?_ ?_ ?_ ?_ ?_ ?_ ?_ ?_ ?_ ?_ ?_ ?_ ?_ ?_ ?_ ?_ ?_ ?_ ?_ ?_ ?_ ?_ ?_<;>intros<;>first | exact .r rfl | exact fun h=>bt h
set_option tactic.hygienic true in
theorem HW (hw:gZ W) (hv:Gm W C n sc (eval value) o):cX W C n sc (eval (.Attribute value x pos)) (yX tb x value o):=by
 unfold yX
 split
 ·rename_i hb
  split
  ·rename_i a ha
   intro A env F G ρ s Q E hA S st q
   rw [arm_eval_Attribute,rL hb]
   refine ac (ax (hv A env F G ρ s _ E hA S st q) (fun v s₁ h'1=>?_) am)
   obtain ⟨t,F'1,ρ1,q,st1,y'1,r⟩:=h'1
   obtain ⟨t',ht,q⟩:=aW q
   refine ac (dJ (ac (b4 (ax (Hq hw st1.world (dj ha) r ht) (fun u s₂ h'2=>?_) am))))
   exact ac (wpAny_letTemporaryGo (al (h'2.epost y'1 st1 q)))
  ·exact bad
 ·exact bad
end
end
section
noncomputable def zI:Bi→Value
 | .len=>.builtin "len" | .sorted=>.builtin "sorted" | .abs=>.builtin "abs" | .all=>.builtin "all"
 | .tuple=>.type "tuple" | .list=>.type "list" | .dict=>.type "dict" | .set=>.type "set" | .int=>.type "int" | .range=>.type "range"
theorem D7 (hw:gZ W) {b:Bi} (h:CH x=some b):W.mg x=none∧W.mb x=some (zI b):=by
 refine cps fun G k=>?_
 refine kG h (fun e z=>k (by rw [e,← az z];exact hw.bn "len" (by decide))) fun h=>?_
 refine kG h (fun e z=>k (by rw [e,← az z];exact hw.bn "sorted" (by decide))) fun h=>?_
 refine kG h (fun e z=>k (by rw [e,← az z];exact hw.bt "tuple" (by decide))) fun h=>?_
 refine kG h (fun e z=>k (by rw [e,← az z];exact hw.bt "list" (by decide))) fun h=>?_
 refine kG h (fun e z=>k (by rw [e,← az z];exact hw.bt "dict" (by decide))) fun h=>?_
 refine kG h (fun e z=>k (by rw [e,← az z];exact hw.bt "set" (by decide))) fun h=>?_
 refine kG h (fun e z=>k (by rw [e,← az z];exact hw.bn "abs" (by decide))) fun h=>?_
 refine kG h (fun e z=>k (by rw [e,← az z];exact hw.bt "int" (by decide))) fun h=>?_
 refine kG h (fun e z=>k (by rw [e,← az z];exact hw.bt "range" (by decide))) fun h=>?_
 exact ifs h fun e z=>k (by rw [e,z];exact hw.bn "all" (by decide))
section
variable {W:Wd} {F:Addr→Prop} {s:Shared} {A:Around} {E:Value→Shared→Prop}
theorem Oy (hw:gZ W) (hk:∀ b o,W.h0.get? b=some o→s.heap.get? b=some o) (hF:∀ a,F a→∃ o,s.heap.get? a=some o) (hA:A.handled=none) (hu:A.units+100 < cLine) {b:Bi} {a t:T} (x:dZ W F s.heap a v) (e:bi b a=some t) :
  wpAny (model W.prog W.w) A (call (zI b) [v]) (fy W F s t) E s:=by
 induction b with
 | len=>
  exact eU e fun n hn z=>z▸ax (MB x hn) (fun _ _ z=>z.res) am
 | sorted=>exact A3 hA hu hF x e
 | tuple=>exact EM x e
 | list=>exact Iq x e
 | dict=>exact ax (zW hA hu hF (let ⟨o,ho⟩:=hw.sys;⟨o,hk _ _ ho⟩) x e) (fun _ _ z=>z.res) am
 | set=>exact L4 hA x e
 | abs=>exact J7 x e
 | int=>exact M4 x e
 | range=>exact Dm x e
 | all=>exact Mh hA hu x e
end
section
variable {W:Wd} {C:aC} {n:Nat} {sc:Scope}
theorem tM {f:Value} {t:Sem Value} {Q:Args→Shared→Prop} (h:wpAny M A t (fun v s₁=>Q ⟨[v],[]⟩ s₁) E s):wpAny M A (evalArgs f true [(false,t)] []) Q E s:=
 Calls.evalArgs_plain (Calls.spliced_cons (ax h (fun _ _ z=>Calls.spliced_nil z) am))
theorem EZ {b:Bi} {t:Sem Value} (h:wpAny M A t (fun v s₁=>wpAny M A (call (zI b) [v]) Q E s₁) E s):wpAny M A (callWith pos (zI b) [] [(false,t)] []) Q E s:=by
 induction b<;>first
  | exact Calls.callWith_builtin rfl (tM h)
  | exact PyProof.Rows.callWith_type rfl (tM h)
theorem N4 (hw:gZ W) {f:Str} {arg:Expr} {b:Bi} (hg:cw sc f=true) (hd:(f==("__debug__":Str))=false) (hn:cZ arg=true) (hb:CH f=some b) (ha:Gm W C n sc (eval arg) o) :
  cX W C n sc (eval (.Call (.Name f p) [arg] [] pos)) (bW b o):=by
 intro A env F G ρ s Q E hA S st q
 refine Call_Name rfl (S.gets hg hd hw st.world (.inr (D7 hw hb)) ?_)
 rw [dA hn]
 refine EZ (ax (ha A env F G ρ s _ E hA S st q) (fun v s₁ h'1=>?_) am)
 obtain ⟨t,F'1,ρ1,q,st1,y'1,r⟩:=h'1
 obtain ⟨t',ht,q⟩:=aW q
 exact ax (Oy hw st1.world st1.live hA.handled hA.u r ht) (fun u s₂ h'2=>h'2.epost y'1 st1 q) am
theorem zc (hw:gZ W) {f:Str} {arg:Expr} (hg:cw sc f=true) (hd:(f==("__debug__":Str))=false) (hn:cZ arg=true) (hb:CH f=some .dict) (ha:Gm W C n sc (eval arg) o) :
  sA W C n sc (eval (.Call (.Name f p) [arg] [] pos)) (bW .dict o):=by
 intro A env F G ρ s Q E hA S st q
 refine Call_Name rfl (S.gets hg hd hw st.world (.inr (D7 hw hb)) ?_)
 rw [dA hn]
 refine EZ (ax (ha A env F G ρ s _ E hA S st q) (fun v s₁ h'1=>?_) am)
 obtain ⟨t,F'1,ρ1,q,st1,y'1,r⟩:=h'1
 obtain ⟨t',ht,q⟩:=aW q
 exact ax (zW hA.handled hA.u st1.live (let ⟨o,ho⟩:=hw.sys;⟨o,st1.world _ _ ho⟩) r ht) (fun u s₂ h'2=>h'2.opost y'1 st1 q) am
end
end
section
theorem pG [BEq α] [LawfulBEq α] {x:α} {xs:List α}:∀ {vs:List β},x∉xs→(xs.zip vs).lookup x=none:=by
 induction xs with
 | nil=>exact fun _=>rfl
 | cons a xs ih=>
  intro vs h
  induction vs with
  | nil=>rfl
  | cons v vs=>
   have h:=not_or.mp fun k=>h (aU.mpr k)
   rw [List.zip_cons_cons,i7,eF.mpr h.1]
   exact ih h.2
theorem ik [BEq α] [LawfulBEq α] {x:α} {v:β} {xs:List α}:∀ {vs:List β} {i:Nat},xs.Nodup→xs[i]? = some x→vs[i]? = some v→(xs.zip vs).lookup x=some v:=by
 induction xs with
 | nil=>intro vs i _ h;exact nn h
 | cons a xs ih=>
  intro vs i hn hx hv
  induction vs with
  | nil=>exact nn hv
  | cons v' vs=>
   rw [List.zip_cons_cons,i7]
   induction i with
   | zero=>rw [← az hx,beq_self_eq_true];exact hv
   | succ i=>
    have hn:=cO.mp hn
    have hx:xs[i]? = some x:=hx
    rw [eF.mpr fun e:x=a=>hn.1 (e▸List.mem_of_getElem? hx)]
    exact ih hn.2 hx hv
theorem ni (l:List (Str×β)):∀ {vs:List β},xs.length=vs.length→(∀ (i:Nat) (x:Str) (v:β),xs[i]? = some x→vs[i]? = some v→l.lookup x=some v)→xs.filterMap (fun n=>(l.lookup n).map (n,·))=xs.zip vs:=by
 induction xs with
 | nil=>exact fun _ _=>rfl
 | cons x xs ih=>
  intro vs h k
  induction vs with
  | nil=>exact nomatch h
  | cons v vs=>
   rw [List.filterMap_cons,k 0 x v rfl rfl]
   exact aw _ (ih (Nat.succ.inj h) fun i a b ha hb=>k (i+1) a b ha hb)
theorem lookup_append [BEq α] [LawfulBEq α] {l r:List (α×β)} {x:α}:(l++r).lookup x=(l.lookup x).or (r.lookup x):=List.lookup_append
theorem DT {l r:List (Str×Value)} {p:Str×Value}:((if (l.lookup p.1).isNone=true then l++[p] else l).lookup x).or (r.lookup x)=(l.lookup x).or ((p::r).lookup x):=by
 obtain ⟨n,v⟩:=p
 rw [i7]
 induction hl:l.lookup n with
 | none=>
  rw [au (show (none:Option Value).isNone=true from rfl),List.lookup_append,i7,List.lookup_nil,Option.or_assoc]
  cases x==n<;>rfl
 | some u=>
  rw [av (show ¬ (some u).isNone=true from bO)]
  induction hx:x==n with
  | false=>rfl
  | true=>rw [eq_of_beq hx,hl];rfl
theorem BS {Q:List (Str×Value)→Shared→Prop} (f:Str×Value→List (Str×Value)→Sem (ForInStep (List (Str×Value))))
  (hf:∀ p l,f p l=pure (.yield (if (l.lookup p.1).isNone then l++[p] else l))) (ps:List (Str×Value)):∀ (l:List (Str×Value)),
  (∀ l',(∀ x,l'.lookup x=(l.lookup x).or (ps.lookup x))→Q l' s)→wpAny M A (forIn ps l f) Q E s:=by
 induction ps with
 | nil=>intro l q;exact al (q l fun x=>Option.or_none.symm)
 | cons p ps ih=>
  intro l q
  rw [List.forIn_cons,hf]
  exact ac (al (ih _ fun l' h'=>q l' fun x=>(h' x).trans DT))
theorem u6 (hn:xs.Nodup) (h:k≤vals.length):(xs.take k).filter (fun n=>((xs.zip vals).lookup n).isNone)=[]:=by
 rw [List.filter_eq_nil_iff]
 intro x hx
 obtain ⟨i,hi⟩:=List.mem_iff_getElem?.mp hx
 rw [List.getElem?_take] at hi
 refine sD hi fun hlt hi=>?_
 rw [ik hn hi (cq (gI hlt h))];exact bO
theorem E7 {xs:List α}:∀ {vs:List β},xs.zip vs=(xs.take vs.length).zip vs:=by
 induction xs with
 | nil=>intro vs;rw [List.take_nil]
 | cons x xs ih=>intro vs;induction vs with
  | nil=>rfl
  | cons v vs=>exact aw _ ih
theorem Jj {a d p:Nat} (h1:a≤p) (h2:p≤a+d):a+(d - (d - (p - a)))=p:=by rw [Nat.sub_sub_self (Nat.sub_le_iff_le_add'.mpr h2),Nat.add_sub_cancel' h1]
theorem Qw {v d x:Nat} (h1:v≤x) (h2:x≤v+d):x=v+(d - (d - (x - v))):=(Jj h1 h2).symm
theorem Qg {v d x:Nat} (h2:x≤v+d) (h:¬ i < v):x - d≤i:=aI (Nat.sub_le_iff_le_add.mpr h2) (Nat.le_of_not_lt h)
theorem Qu {v d x:Nat} (h1:v≤x) (h2:x≤v+d) (h3:d≤x) (h:¬ i < v):i - (x - d)=d - (x - v)+(i - v):=by
 obtain ⟨a,rfl⟩:=Nat.exists_eq_add_of_le h1
 obtain ⟨j,rfl⟩:=Nat.exists_eq_add_of_le (Nat.le_of_not_lt h)
 obtain ⟨b,rfl⟩:=Nat.exists_eq_add_of_le (Nat.le_of_add_le_add_left h2)
 have hb:b≤v:=Nat.le_of_add_le_add_left (a:=a) (Nat.add_comm v a▸h3)
 rw [Nat.add_sub_cancel_left,Nat.add_sub_cancel_left,Nat.add_sub_cancel_left,Nat.add_comm a b,Nat.add_sub_add_right,Nat.sub_add_comm (Nat.sub_le _ _),Nat.sub_sub_self hb]
theorem CB {ds:List Value} {l':List (Str×Value)} (hn:xs.Nodup) (hl:vals.length≤xs.length) (hl2:xs.length≤vals.length+ds.length) (hl3:ds.length≤xs.length)
  (hl':∀ x,l'.lookup x=((xs.zip vals).lookup x).or (((xs.drop (xs.length - ds.length)).zip ds).lookup x)) :
  xs.filterMap (fun n=>(l'.lookup n).map (n,·))=xs.zip (vals++ds.drop (ds.length - (xs.length - vals.length))):=by
 refine ni l' (by rw [bS,List.length_drop];exact Qw hl hl2) fun i x v hx hv=>?_
 rw [hl' x]
 by_cases hi:i < vals.length
 ·rw [List.getElem?_append_left hi] at hv
  rw [ik hn hx hv];rfl
 ·rw [List.getElem?_append_right (Nat.le_of_not_lt hi),List.getElem?_drop] at hv
  have hxl:=(g8.mp hx).1
  have h0:(xs.zip vals).lookup x=none:=by
   rw [E7]
   refine pG fun hz=>?_
   obtain ⟨j,hj⟩:=List.mem_iff_getElem?.mp hz
   rw [List.getElem?_take] at hj
   exact sD hj fun hlt hj=>hi ((List.getElem?_inj hxl hn).mp (hx.trans hj.symm)▸hlt)
  rw [h0,Option.none_or]
  refine ik (i:=i - (xs.length - ds.length)) (hn.sublist (List.drop_sublist _ _)) ?_ ?_
  ·rw [List.getElem?_drop,Nat.add_sub_cancel' (Qg hl2 hi)];exact hx
  ·exact (aw (fun k=>ds[k]?) (Qu hl hl2 hl3 hi)).trans hv
structure I3 (p:Arguments) (xs:List Str):Prop where
 names:p.args.map (·.arg)=xs
 pos:p.posonlyargs=[]
 kwo:p.kwonlyargs=[]
 va:p.vararg=none
 kwa:p.kwarg=none
 nodup:xs.Nodup
theorem G1 {fd:FuncData} {ds:List Value} {Q:List (Str×Value)→Shared→Prop} (hp:I3 fd.params xs)
  (hd:∃ r:Option (Array Value),(r.getD #[]).toList=ds∧∀ Q,Q r s→wpAny M A (seqItems? fd.defaults) Q E s) (hl:vals.length≤xs.length) (hl2:xs.length≤vals.length+ds.length) (hl3:ds.length≤xs.length)
  (q:Q (xs.zip (vals++ds.drop (ds.length - (xs.length - vals.length)))) s):wpAny M A (bindArgs fd ⟨vals,[]⟩) Q E s:=by
 obtain ⟨nm,qn,⟨po,ar,va,kwo,kwd,kwa,df⟩,bd,sc,gl,cl,dfl,kd,doc,pm,an,cd,ct⟩:=fd
 obtain ⟨e1,e2,e3,e4,e5,hn⟩:=hp
 subst e1;subst e2;subst e3;subst e4;subst e5
 obtain ⟨r,hr,hs⟩:=hd
 refine ac (m:=forIn ([]:List (Str×Value)) _ _) (al (ac (hs _ ?_)))
 subst hr
 have e0:=Nat.sub_eq_zero_of_le hl3
 refine bD (fun h=>Nat.not_lt.mpr hl (bI (cz.mp h).1)) ?_
 have hm:∀ k,k≤vals.length→(!((((ar.map Arg.arg).take k).filter (fun n=>(((ar.map Arg.arg).zip vals).lookup n).isNone)).isEmpty))=false:=fun k h=>by rw [u6 hn h];rfl
 refine bD (fun h=>absurd (h.symm.trans (hm _ ?_)) (by decide)) (ac (BS _ (fun p l=>?_) _ _ fun l' hl'=>ac (m:=forIn ([]:List Str) _ _) (al (bD bO ?_))))
 ·show (ar.map Arg.arg).length - ((r.getD #[]).toList.drop ((r.getD #[]).toList.length - (ar.map Arg.arg).length)).length≤_
  rw [e0,List.drop_zero];exact Nat.sub_le_of_le_add hl2
 ·cases h:(l.lookup p.1).isNone
  ·simp [h]
  ·simp [h]
 ·refine al ?_
  have hl':∀ x,l'.lookup x=(((ar.map Arg.arg).zip vals).lookup x).or ((((ar.map Arg.arg).drop ((ar.map Arg.arg).length - ((r.getD #[]).toList.drop ((r.getD #[]).toList.length - (ar.map Arg.arg).length)).length)).zip ((r.getD #[]).toList.drop ((r.getD #[]).toList.length - (ar.map Arg.arg).length))).lookup x):=hl'
  rw [e0,List.drop_zero] at hl'
  rw [← CB hn hl hl2 hl3 hl'] at q
  show Q (((ar.map Arg.arg)++[]).filterMap _) s
  rw [cj];exact q
end
section
noncomputable def gW (f:Nat):Nat:=match f0 f with | some fd=>(match fd.ref with | some r=>fd.params.idxOf r | none=>0) | none=>0
noncomputable def qE (W:Wd) (F:Addr→Prop) (h:Heap) (as:List Addr):Option T→Option Value→Prop
 | none,none=>as=[]
 | some t,some v=>gu W F h as t v
 | _,_=>False
noncomputable def pN (p:Nat) (rv:Option Value) (vs:List Value):List Value:=match rv with | none=>vs | some v=>vs.insertIdx p v
structure Aw (F:Addr→Prop) (as:List Addr) (s:Shared) (F':Addr→Prop) (s':Shared):Prop where
 gens:s'.gens=s.gens
 os:s'.os=s.os
 keep:∀ b o,b∉as→s.heap.get? b=some o→s'.heap.get? b=some o
 mono:∀ a,F a→F' a
 fresh:∀ a,F' a→F a∨(s.heap.get? a=none∧∃ o,s'.heap.get? a=some o)
theorem Aw.grow (x:Aw F [] s F' s'):cf F s F' s':=⟨x.gens,x.os,fun b o=>x.keep b o (by simp),x.mono,x.fresh⟩
structure OX (n:Nat) (A:Around):Prop where
 handled:A.handled=none
 depth:A.depth+2*n≤901
 units:A.units+20*n≤9001
theorem sQ.c (h:sQ n A):OX n A:=⟨h.handled,by have:=h.depth;lia,by have:=h.units;lia⟩
inductive zD (W:Wd) (F:Addr→Prop) (as:List Addr) (s:Shared) (rv:Option Value) (Q:T→Option T→Prop) (v:Value) (s':Shared):Prop where
 | mk (t:T) (r':Option T) (F':Addr→Prop) (h1:Q t r') (h2:Aw F as s F' s') (h3:VR W F' s'.heap t v) (h4:qE W F' s'.heap as r' rv) (h5:∀ a∈as,¬ F' a)
noncomputable def FI (E:Value→Shared→Prop) (P:Value→Shared→Prop) (r:Result) (s':Shared):Prop:=match r with
 | .ok (.ret v)=>P v s' | .ok _=>False | .error e=>E e s'
noncomputable def cC (W:Wd) (C:aC) (n:Nat):Prop:=∀ f ts r Q A F s vs rv as E,OX n A→f < 79→(∀ b o,W.h0.get? b=some o→s.heap.get? b=some o)→(∀ a,W.F0 a→F a)→(∀ a,F a→∃ o,s.heap.get? a=some o)→
 bR W F s.heap ts vs→qE W F s.heap as r rv→as.Nodup→(∀ a∈as,¬ F a∧W.h0.get? a=none)→C f ts r Q→
 codeAny (model W.prog W.w) A (.call (.ref (W.fa f)) ⟨pN (gW f) rv vs,[]⟩) (FI E (zD W F as s rv Q)) s
theorem cC.wp {C:aC} (h:cC W C n):∀ f ts r Q A F s vs rv as E,sQ n A→f < 79→(∀ b o,W.h0.get? b=some o→s.heap.get? b=some o)→(∀ a,W.F0 a→F a)→(∀ a,F a→∃ o,s.heap.get? a=some o)→
 bR W F s.heap ts vs→qE W F s.heap as r rv→as.Nodup→(∀ a∈as,¬ F a∧W.h0.get? a=none)→C f ts r Q→
 wpAny (model W.prog W.w) A (call (.ref (W.fa f)) (pN (gW f) rv vs)) (zD W F as s rv Q) E s:=
 fun f ts r Q A F s vs rv as E a b c d e f' g h' i j=>wpAny_call (codeAny_mono (h f ts r Q A F s vs rv as E a.c b c d e f' g h' i j) fun r s' z=>by
  rcases r with e | (v | _ | _ | _)
  ·exact z
  ·exact z
  ·exact z
  ·exact z
  ·exact z)
theorem gh {f:Value} {ts:List (Bool×Sem Value)} {Q:Args→Shared→Prop} (hp:ts.any (·.1)=false) (h:wpAny M A (spliced ts) (fun vs s₁=>Q ⟨vs,[]⟩ s₁) E s):wpAny M A (evalArgs f true ts []) Q E s:=by
 induction ts with
 | nil=>
  unfold evalArgs
  show wpAny M A (spliced [] >>= _) Q E s
  refine ac (ax h (fun vs s₁ h'1=>ac (al (b4 ?_))) am)
  exact ac (al (ac (al (al h'1))))
 | cons t ts=>
  obtain ⟨b,t⟩:=t
  rw [List.any_cons,Bool.or_eq_false_iff] at hp
  obtain rfl:b=false:=hp.1
  exact Calls.evalArgs_plain h
theorem fP (h:es.all cZ=true):(backTo pos (starEach es env)).any (·.1)=false:=by
 induction es with
 | nil=>rfl
 | cons e es ih=>
  rw [List.all_cons,bC] at h
  rw [dA h.1,List.any_cons,ih h.2];rfl
theorem bu (h:gY es=true):es.all cZ=true:=by
 unfold gY at h;rw [bC] at h;exact h.1
section
variable {W:Wd} {C:aC} {n:Nat} {sc:Scope}
theorem pY {f:Nat} {first:List Value} (hw:gZ W) (hf:f < 79) (hn:es.all cZ=true)
  (h:wpAny (model W.prog W.w) A (spliced (backTo pos (starEach es env))) (fun vs s₁=>(∀ b o,W.h0.get? b=some o→s₁.heap.get? b=some o)∧wpAny (model W.prog W.w) A (call (.ref (W.fa f)) (first++vs)) Q E s₁) E s) :
  ∀ pos',wpAny (model W.prog W.w) A (callWith pos' (.ref (W.fa f)) first (backTo pos (starEach es env)) []) Q E s:=by
 intro pos'
 obtain ⟨p,b,sc',_,K⟩:=hw.fo f hf
 obtain ⟨o,fd,ho,hd,_⟩:=K.obj
 exact Calls.callWith_function (gh (fP hn) (ax h (fun vs s₁ h'1=>⟨⟨h'1.1 _ _ ho,hd⟩,h'1.2⟩) am))
theorem EE {p:Nat×Option Nat} (h:tb.fn x=some p):dz qs (lA x.cps.toList)=some p∧dz iL p.1=some x:=
 dy (show (dz qs (lA x.cps.toList)).bind (fun p=>if dz iL p.1=some x then some p else none)=some p from h) fun q h1 h2=>ifs h2 fun h3 e=>⟨e▸h1,e▸h3⟩
theorem Dl {p:Nat×Nat} (h:tb.cls x=some p):dz qd (lA x.cps.toList)=some p∧dz jp p.1=some x:=
 dy (show (dz qd (lA x.cps.toList)).bind (fun p=>if dz jp p.1=some x then some p else none)=some p from h) fun q h1 h2=>ifs h2 fun h3 e=>⟨e▸h1,e▸h3⟩
theorem tU {r:Option Nat} (h:tb.fn x=some (i,r)):i < 79:=by
 have key:qs.all (fun p=>decide (p.2.1 < 79))=true:=by decide +kernel
 exact bI (aY.mp key _ (dU (EE h).1))
theorem IM (hw:gZ W) (hC:cC W C n) (hg:cw sc x=true) (hd:(x==("__debug__":Str))=false) (hn:gY args=true) (hi:tb.fn x=some (i,none)) (ha:xZ W C n sc args ds) :
  cX W C n sc (eval (.Call (.Name x p) args [] pos)) (aK i ds none):=by
 intro A env F G ρ s Q E hA S st q
 obtain ⟨_,q⟩:=q
 refine Call_Name rfl (S.gets hg hd hw st.world (.inl (hw.fn x i none hi)) ?_)
 refine pY hw (tU hi) (bu hn) (ax (ha pos A env F G ρ s _ E hA S st q) (fun vs s₁ h'1=>?_) am) pos
 obtain ⟨ts,F'1,ρ1,hl,q,st1,y'1,r⟩:=h'1
 refine ⟨st1.world,?_⟩
 refine ax (hC.wp i ts none _ A F'1 s₁ vs none [] E hA (tU hi) st1.world st1.base st1.live r rfl cJ (fun a h=>nomatch h) q) (fun v s₂ h'2=>?_) am
 obtain ⟨t,r',F',q,af,rv,_,_⟩:=h'2
 exact fy.epost y'1 st1 ⟨F',af.grow,rv⟩ q
theorem kr (hn:es.all cZ=true) (H:∀ e∈es,cX W C n sc (eval e) (bA tb sc e)):xZ W C n sc es (kE (fm tb sc es)):=by
 induction es with
 | nil=>exact IZ
 | cons e es ih=>
  rw [List.all_cons,bC] at hn
  exact DF hn.1 (H e (.head _)) (ih hn.2 fun e' h=>H e' (.tail _ h))
inductive Ez (W:Wd) (F:Addr→Prop) (G:List bY) (ρ:Env) (s:Shared) (Q:List T→Env→Prop) (p j:Nat):List Value→Shared→Prop where
 | mk (ts:List T) (F':Addr→Prop) (ρ':Env) (us:List Value) (rv:Value) (e:bY) (s':Shared) (h1:p≤us.length) (h2:Q ts ρ') (h3:St W F' G ρ' s') (h4:b2 F G ρ s F' ρ' s') (h5:bR W F' s'.heap ts us) (h6:first G j=some e) (h7:e.pl.Holds s'.heap (some rv)):Ez W F G ρ s Q p j (us.insertIdx p rv) s'
theorem St.isB (st:St W F G ρ s) {e:bY} (hf:first G j=some e) (hv:e.pl.Holds s.heap (some v)):isB (ρ.get j):=by
 have lk:=st.look hf
 generalize ρ.get j=sl at lk
 induction sl with
 | unb=>exact nn (lk.inj hv)
 | _=>trivial
noncomputable def O5 (W:Wd) (C:aC) (n:Nat) (sc:Scope) (j p:Nat) (args:List Expr) (d:sE):Prop:=∀ pos A env F G ρ s Q E,sQ n A→dg W sc env G→St W F G ρ s→isB (ρ.get j)→d C ρ Q→
 wpAny (model W.prog W.w) A (spliced (backTo pos (starEach args env))) (Ez W F G ρ s Q p j) E s
theorem Bu {pn:Pos} (ho:cR sc y=true) (hj:bm j y) {d:sE} (h:xZ W C n sc args d):O5 W C n sc j 0 (.Name y pn::args) d:=by
 intro pos A env F G ρ s Q E hA S st hb q
 rw [dA rfl]
 obtain ⟨en,hf,ld⟩:=S.loads ho hj
 obtain ⟨rv,hrv⟩:=st.bound hf hb
 refine Calls.spliced_cons (ld hrv (ax (h pos A env F G ρ s Q E hA S st q) (fun vs s₁ z=>?_) am))
 obtain ⟨ts,F'1,ρ1,hl,q,st1,y'1,r⟩:=z
 exact ⟨ts,F'1,ρ1,vs,rv,en,s₁,cr _,q,st1,y'1,r,hf,hrv.keep fun o=>y'1.pl en (ck hf) o⟩
theorem CO {p:Nat} (ho:cR sc y=true) (hj:bm j y) {e:Expr} {de:SE} {d:sE} (hn:cZ e=true) (he:cX W C n sc (eval e) de) (h:O5 W C n sc j p args d):O5 W C n sc j (p+1) (e::args) (aa de d):=by
 intro pos A env F G ρ s Q E hA S st hb q
 rw [dA hn]
 refine Calls.spliced_cons (ax (he A env F G ρ s _ E hA S st q) (fun v s₁ z=>?_) am)
 obtain ⟨t,F'1,ρ1,q,st1,y'1,r⟩:=z
 obtain ⟨en,hf,ld⟩:=S.loads ho hj
 obtain ⟨rv,hrv⟩:=st.bound hf hb
 refine ax (h pos A env F'1 G ρ1 s₁ _ E hA S st1 (st1.isB hf (hrv.keep fun o=>y'1.pl en (ck hf) o)) q) (fun vs s₂ z=>?_) am
 obtain ⟨ts,F'2,ρ2,us,rv',en',s₂,hle,q,st2,y'2,rs,hf',hrv'⟩:=z
 exact Ez.mk (us:=v::us) (t::ts) F'2 ρ2 rv' en' s₂ (gC hle) q st2 (y'1.trans y'2) (.cons (y'2.step.vr st1 r) rs) hf' hrv'
theorem ET {pn:Pos} (ho:cR sc y=true) (hj:bm j y):∀ {p:Nat},args[p]? = some (.Name y pn)→args.all cZ=true→(∀ e∈args,cX W C n sc (eval e) (bA tb sc e))→O5 W C n sc j p args (kE ((fm tb sc args).eraseIdx p)):=by
 induction args with
 | nil=>exact fun hp=>nn hp
 | cons e args ih=>
  intro p hp hn H
  have hn:=cz.mp hn
  induction p with
  | zero=>rw [az hp];exact Bu ho hj (kr hn.2 fun e' h=>H e' (.tail _ h))
  | succ p=>exact CO ho hj hn.1 (H e (.head _)) (ih hp hn.2 fun e' h=>H e' (.tail _ h))
theorem Dk {p:Nat} (h:tb.fn x=some (i,some p)):gW i=p:=by
 have key:qs.all (fun q=>match q.2.2 with | some p=>gW q.2.1==p | none=>true)=true:=by decide +kernel
 exact bp.mp (aY.mp key _ (dU (EE h).1))
theorem Fr (st:St W F G ρ s) {e:bY} (hf:first G j=some e) {fx:Bool} {t:T} (h:ρ.get j=.own fx t):e.own.Nodup∧∀ a∈e.own,a∈bk G ρ:=by
 obtain ⟨G'1,G'2,ρ1,ρ2,sl,rfl,rfl,hl,hg,hs,hn,_⟩:=st.env.split hf
 rw [h] at hg;subst hg
 have O:bk (G'1++e::G'2) (ρ1++(j,.own fx t)::ρ2)=bk G'1 ρ1++(e.own++bk G'2 ρ2):=by rw [b9 hl];rfl
 have nd:=st.nodup
 rw [O] at nd ⊢
 exact ⟨(cF.mp (cF.mp nd).2.1).1,fun a ha=>du _ (eW _ ha)⟩
theorem yn (hw:gZ W) (hC:cC W C n) {pn:Pos} (hg:cw sc x=true) (hd:(x==("__debug__":Str))=false) (hn:gY args=true) (hi:tb.fn x=some (i,some k))
  (hp:args[k]? = some (.Name y pn)) (ho:cR sc y=true) (hj:bm j y) (H:∀ e∈args,cX W C n sc (eval e) (bA tb sc e)) :
  cX W C n sc (eval (.Call (.Name x p) args [] pos)) (aK i (kE ((fm tb sc args).eraseIdx k)) (some j)):=by
 intro A env F G ρ s Q E hA S st q
 obtain ⟨hb,q⟩:=q
 refine Call_Name rfl (S.gets hg hd hw st.world (.inl (hw.fn x i _ hi)) ?_)
 refine pY hw (tU hi) (bu hn) (ax (ET ho hj hp (bu hn) H pos A env F G ρ s _ E hA S st hb q) (fun vs s₁ h'1=>?_) am) pos
 obtain ⟨ts,F'1,ρ1,us,rv,en,s₁,hle,q,st1,y'1,r,hf,hrv⟩:=h'1
 refine ⟨st1.world,?_⟩
 have lk:=st1.look hf
 have q:zL C i ts (ρ1.get j) (fun v s=>Q v (ρ1.set j s)):=q
 induction hsl:ρ1.get j with
 | unb=>rw [hsl] at q;exact q.elim
 | val t=>rw [hsl] at q;exact q.elim
 | own fx t=>
  rw [hsl] at q lk
  obtain ⟨v',hv',ro⟩:=lk
  have:rv=v':=az (hrv.inj hv')
  subst this
  obtain ⟨nd,hin⟩:=Fr st1 hf hsl
  have q:C i ts (some t) (fun v t'=>fX t' fun t'=>Q v (ρ1.set j (.own fx t'))):=q
  have e0:[]++us.insertIdx k rv=pN (gW i) (some rv) us:=by rw [Dk hi];rfl
  rw [e0]
  refine ax (hC.wp i ts (some t) _ A F'1 s₁ us (some rv) en.own E hA (tU hi) st1.world st1.base st1.live r ro nd (fun a h=>⟨st1.ownF a (hin a h),st1.new a (hin a h)⟩) q) (fun v s₂ h'2=>?_) am
  obtain ⟨tv,r',F',q,af,rv',rr,nF⟩:=h'2
  obtain ⟨t',rfl,q⟩:=aW q
  obtain ⟨st2,y'2⟩:=st1.mutateF hf hsl hrv (show gu W F' s₂.heap en.own t' rv from rr) (fun b o=>af.keep b o) af.gens af.os af.mono af.fresh
  exact ⟨tv,F',_,q,st2,y'1.trans y'2,rv'⟩
theorem Ob {c m f:Nat} (h:mt c m=some f):c < 14∧f < 79:=by
 have key:xh.all (fun p=>decide (p.1 < 14)&&p.2.all fun q=>decide (q.2 < 79))=true:=by decide +kernel
 unfold mt at h
 obtain ⟨l,h1,h2⟩:=kS.mp h
 have a:=aY.mp key _ (dU h1)
 rw [bC,decide_eq_true_eq] at a
 exact ⟨a.1,bI (aY.mp a.2 _ (dU h2))⟩
theorem KC (h:gY args=true):methodCallForm (args.length+([]:List Keyword).length) (backTo pos (starEach args env)) (backToKw pos (keywordEach [] env))=true:=by
 unfold methodCallForm
 have h1:=fP (env:=env) (pos:=pos) (bu h)
 have h2:(backTo pos (starEach args env)).all (!·.1)=true:=by
  rw [aY];rw [List.any_eq_false] at h1
  intro x hx;have:=h1 x hx;simpa using this
 have h3:args.length < 29:=by unfold gY at h;rw [bC,decide_eq_true_eq] at h;exact h.2
 rw [h2]
 show (true&&(keywordEach [] env).all _&&_)=true
 have:decide (args.length+([]:List Keyword).length+(if (backToKw pos (keywordEach [] env)).isEmpty then 0 else 1) < 30)=true:=br (by
  show args.length+0+0 < 30;lia)
 simp only [Bool.true_and]
 show (true&&_)=true
 rw [Bool.true_and];exact this
theorem M9 {o:Expr} {Q:Pos→Shared→Prop} (h:(ap.endLine==pos.line)=true) (q:Q pos s):wpAny M A (methodCallPos true o env ap pos) Q E s:=by
 unfold methodCallPos
 rw [h]
 exact al q
theorem iz {o:Expr} {m:Str} (hb:fe o=true) (hn:gY args=true) (hp:(ap.endLine==pos.line)=true)
  (h:wpAny M A (eval o env) (fun ov s₁=>∀ pl,wpAny M A (getMethod ov m pl) (fun r s₂=>wpAny M A (callWith pos r.1 r.2 (backTo pos (starEach args env)) []) Q E s₂) E s₁) E s) :
  wpAny M A (eval (.Call (.Attribute o m ap) args [] pos) env) Q E s:=by
 rw [arm_eval_Call,rL hb]
 refine ac (ax h (fun ov s₁ h'1=>ac (dJ ?_)) am)
 unfold methodCall
 rw [KC hn]
 refine ac (b4 ?_)
 unfold calleeOf
 rw [au rfl]
 refine ax (h'1 _) (fun r s₂ h'2=>?_) am
 obtain ⟨f,first⟩:=r
 exact ac (M9 hp h'2)
theorem HP (hw:gZ W) (hC:cC W C n) {o:Expr} {m:Str} {d:SE} (hb:fe o=true) (hn:gY args=true) (hp:(ap.endLine==pos.line)=true) (hi:bm i m) (ho:cX W C n sc (eval o) d) (ha:xZ W C n sc args ds) :
  cX W C n sc (eval (.Call (.Attribute o m ap) args [] pos)) (cy mt d i ds):=by
 intro A env F G ρ s Q E hA S st q
 refine iz hb hn hp (ax (ho A env F G ρ s _ E hA S st q) (fun ov s₁ h'1 pl=>?_) am)
 obtain ⟨to,F'1,ρ1,q,st1,y'1,ro⟩:=h'1
 obtain ⟨f,hf,q⟩:=aW q
 refine dy hf fun p hp hf=>sD hf fun hno hf=>?_
 obtain ⟨hc,hf79⟩:=Ob hf
 have K:=hw.cls p.1 hc
 obtain ⟨es,a,dx,ep,rfl,g,g',l,rr⟩:=(pW hp▸ro).q.inst_inv
 obtain ⟨m1,m2⟩:=K.meth i f m hf hi
 have L:=rr.look (ep:=ep) hi
 rw [Option.isNone_iff_eq_none.mp hno] at L
 have hsh:shadowIn (some (aL es ep)) m=some false:=by
  show (lookIn m (aL es ep)).map (·.isSome)=some false
  generalize lookIn m (aL es ep)=lk at L
  obtain ⟨⟩:=L
  rfl
 refine method_fn (hw.K.keeps st1.world) (vX g g') K.ga K.gat m1 m2 hsh ?_
 refine pY hw hf79 (bu hn) (ax (ha pos A env F'1 G ρ1 s₁ _ E hA S st1 q) (fun vs s₂ h'2=>?_) am) pos
 obtain ⟨ts,F'2,ρ2,hl,q,st2,y'2,r⟩:=h'2
 refine ⟨st2.world,?_⟩
 refine ax (hC.wp f _ none _ A F'2 s₂ (.ref a::vs) none [] E hA hf79 st2.world st2.base st2.live (.cons (y'2.step.vr st1 ro) r) rfl cJ (fun a h=>nomatch h) q) (fun v s'3 h'3=>?_) am
 obtain ⟨t,r',F',q,af,rv,_,_⟩:=h'3
 exact fy.epost (y'1.trans y'2) st2 ⟨F',af.grow,rv⟩ q
end
end
section
noncomputable def Er:BM→Str
 | .get=>"get" | .values=>"values" | .index=>"index"
noncomputable def zK:BM→Value
 | .get=>.builtin "dict.get" | .values=>.builtin "dict.values" | .index=>.builtin "list.index"
theorem zy {m:Str} {b:BM} (h:HN m=some b):m=Er b:=by
 exact kG h (fun e z=>az z▸e) fun h=>kG h (fun e z=>az z▸e) fun h=>ifs h fun e z=>z▸e
section
variable {W:Wd} {F:Addr→Prop} {s:Shared} {A:Around} {E:Value→Shared→Prop}
theorem Fy {b:BM} {to:T} {pl:Sem Bool} {Q:Value×List Value→Shared→Prop} (x:dZ W F s.heap to v) (k:Pz b to=true) (q:Q (zK b,[v]) s):wpAny (model W.prog W.w) A (getMethod v (Er b) pl) Q E s:=by
 induction b with
 | get=>
  exact zU k fun kvs h=>by
   obtain ⟨es,a,ep,rfl,g,_⟩:=(h▸x).dict_inv
   exact getMethod_builtin ⟨_,g,rfl⟩ PySem.F.plainAttrs_dict PySem.F.slot_dict_get PySem.F.type_dict_get (fun b e=>Value.ref.inj e▸⟨_,g,rfl⟩) q
 | values=>
  exact zU k fun kvs h=>by
   obtain ⟨es,a,ep,rfl,g,_⟩:=(h▸x).dict_inv
   exact getMethod_builtin ⟨_,g,rfl⟩ PySem.F.plainAttrs_dict PySem.F.slot_dict_values PySem.F.type_dict_values (fun b e=>Value.ref.inj e▸⟨_,g,rfl⟩) q
 | index=>
  obtain ⟨xs,h⟩:=Option.isSome_iff_exists.mp k
  obtain ⟨es,a,ep,rfl,g,_⟩:=(et h▸x).list_inv
  exact getMethod_builtin ⟨_,g,rfl⟩ PySem.F.plainAttrs_list PySem.F.slot_list_index PySem.F.type_list_index (fun b e=>Value.ref.inj e▸⟨_,g,rfl⟩) q
theorem Ex {xs:List T} {l:List Int} {i:Int} {t:Tok} (g:s.heap.get? a=some (seqObj "list" vs.toArray n)) (hz:xs.length≤SZ) (r:bR W F s.heap xs vs) (e:c6 xs=some l) (hk:l.contains i=true) :
  wpAny (model W.prog W.w) A (call (.builtin "list.index") [.ref a,.int i t]) (fy W F s (.int (l.idxOf i))) E s:=by
 have hx:=ew e
 subst hx
 have hi:=tF r
 have hlen:=hi.length
 rw [ba] at hz
 have hz':l.length≤1048576:=hz
 have hm:i∈l:=fK.mp hk
 have hj:l.idxOf i < l.length:=List.idxOf_lt_length_iff.mpr hm
 refine call_meets PySem.F.slot_list_index ⟨_,g,rfl⟩ PySem.F.entry_list_index (PySem.F.args_list_index_2 _ _)
  (SeqAt.list_indexAt a vs.toArray n none #[] (.int i t) (PyProof.Rows.isInt i) (l.idxOf i) (by simpa [hlen] using hj) (by lia) ?_ ?_) ⟨g,fun y hy=>(eq_isInt i t hi y (by simpa using hy)).at _ _,?_⟩
 ·show PyProof.Rows.isInt i vs[l.idxOf i]=true
  rw [isInt_at i hi _ (by lia) hj]
  simpa using List.getElem_idxOf hj
 ·intro j hjs hlt
  show PyProof.Rows.isInt i vs[j]=false
  rw [isInt_at i hi j (by simpa using hjs) (by lia)]
  exact ne_of_lt_idxOf hlt _
 ·exact fy.of_toks (tk:=s.toks+1) (.int _ _)
theorem J6 {es:List DictEntry} {d:Addr} {k:bL} {kv dv:Value} {dt:T} (hu:A.units+20 < cLine) (hs:(d==sysModules)=false) (hg:s.heap.get? d=some (aL es ep)) (r:cL W F s.heap kvs es) (hn:(kvs.map (·.1)).Nodup)
  (hh:tR k kvs=true) (hk:VR W ef s.heap (cb k) kv) (hd:VR W F s.heap dt dv) :
  wpAny (model W.prog W.w) A (call (.builtin "dict.get") [.ref d,kv,dv]) (fy W F s ((gL kvs k).getD dt)) E s:=by
 refine eP PySem.F.slot_dict_get (aA hg) PySem.F.entry_dict_get ?_ (PySem.F.args_dict_get_3 _ _ _)
 show wpAny _ _ (dictGet d kv >>= _) _ _ s
 refine ac (vU (by simp only [Around.in1_units];lia) hg r hn hh hk fun o tk ho=>?_)
 induction hf:gL kvs k with
 | some v=>
  rw [hf] at ho
  induction o with
  | none=>exact ho.elim
  | some o=>exact al ⟨_,rfl,fy.of_toks ho⟩
 | none=>
  rw [hf] at ho
  induction o with
  | some o=>exact ho.elim
  | none=>
   show wpAny _ _ (Builtin.Dict.missed d kv >>= _) _ _ _
   exact ac (wpAny_missed_other hs (al ⟨_,rfl,fy.of_toks hd⟩))
theorem BJ {es:List DictEntry} {d:Addr} (hs:(d==sysModules)=false) (hF:F d) (hl:kvs.length≤SZ) (hg:s.heap.get? d=some (aL es ep)) (r:cL W F s.heap kvs es) :
  wpAny (model W.prog W.w) A (call (.builtin "dict.values") [.ref d]) (fy W F s (.dvals kvs)) E s:=by
 refine eP PySem.F.slot_dict_values (aA hg) PySem.F.entry_dict_values ?_ (PySem.F.args_dict_values_1 _)
 refine ac ?_
 unfold Builtin.Dict.noArgs
 refine ac (wpAny_notOrdered_dict (aA hg) ?_)
 show wpAny _ _ (pure d) _ _ s
 refine al ?_
 show wpAny _ _ (Builtin.Dict.showsAll d >>= _) _ _ s
 unfold Builtin.Dict.showsAll
 rw [av (by rw [hs];exact bO)]
 refine ac (al ?_)
 refine ac (gT (al ?_))
 have g:cf F s F { s with heap:=s.heap.push { cls:=.type "dict_values",data:=.fields #[.ref d] } }:=cf.push F _ s.toks
 refine ⟨_,rfl,_,g.add (as:=[s.heap.objs.size]) (fun a h=>by rw [aV.mp h];exact aS _) (fun a h=>by rw [aV.mp h];exact ⟨_,dH _ rfl⟩),?_⟩
 exact .dvals (.inr (.head _)) (dH _ rfl) (.inl hF) (bU _ hg) hl (cL.mono (fun _=>.inl) (fun a o _ e=>bU _ e) r)
theorem I4 {b:BM} {to t:T} {ts:List T} (hu:A.units+100 < cLine) (x:dZ W F s.heap to v) (hv:b=.values→VR W F s.heap to v) (r:bR W F s.heap ts vs) (e:OF b to ts=some t) :
  wpAny (model W.prog W.w) A (call (zK b) (v::vs)) (fy W F s t) E s:=by
 induction b with
 | get=>
  refine dy e fun kvs h1 e=>dy e fun p h2 e=>dy e fun k' hk' e=>ifs e fun hh z=>?_
  rw [z]
  obtain ⟨v1,v2,rk,rd⟩:=(xf h2▸r).two
  obtain ⟨es,a,ep,rfl,g,_,hn,hs,rr⟩:=(km h1▸x).dict_inv
  exact J6 (by lia) hs g rr hn hh (gJ hk'▸rk.up) rd
 | values=>
  refine dy e fun kvs h1 e=>ifs e fun h2 z=>?_
  have r':bR W F s.heap [] vs:=List.isEmpty_iff.mp h2▸r
  rw [z,r'.inv0]
  obtain ⟨es,a,ep,e,g,l,_,n,rr⟩:=(km h1▸hv rfl:VR W F s.heap (.dict kvs) v).q.dict_inv
  rw [e]
  exact BJ n ((km h1▸hv rfl:VR W F s.heap (.dict kvs) v).rootF e) l g rr
 | index=>
  refine dy e fun xs h1 e=>dy e fun i h2 e=>dy h2 fun t h3 h4=>dy e fun l hl e=>ifs e fun hc z=>?_
  rw [z]
  obtain ⟨w,ri⟩:=(z8 h3▸r).one
  obtain ⟨u,rfl⟩:=(cB h4▸ri).q.int_inv
  obtain ⟨vs,a,n,rfl,g,hz,rr⟩:=(et h1▸x).list_inv
  exact Ex g hz rr hl hc
theorem An {b:BM} {ts:List (Bool×Sem Value)} (hp:ts.any (·.1)=false) (h:wpAny M A (spliced ts) (fun vs s₁=>wpAny M A (call (zK b) (v::vs)) Q E s₁) E s) :
  wpAny M A (callWith pos (zK b) [v] ts []) Q E s:=by
 induction b<;>exact Calls.callWith_builtin hp (gh hp h)
end
section
variable {W:Wd} {C:aC} {n:Nat} {sc:Scope}
theorem Et {o:Expr} {m:Str} {b:BM} {d:SE} (hb:fe o=true) (hn:gY args=true) (hp:(ap.endLine==pos.line)=true) (hm:HN m=some b) (ho:cX W C n sc (eval o) d) (ha:xZ W C n sc args ds) :
  cX W C n sc (eval (.Call (.Attribute o m ap) args [] pos)) (Aq b (.e d) ds):=by
 intro A env F G ρ s Q E hA S st q
 refine iz hb hn hp (ax (ho A env F G ρ s _ E hA S st q) (fun ov s₁ h'1 pl=>?_) am)
 obtain ⟨to,F'1,ρ1,⟨hk,q⟩,st1,y'1,ro⟩:=h'1
 rw [zy hm]
 refine Fy ro.q hk ?_
 refine An (fP (bu hn)) (ax (ha pos A env F'1 G ρ1 s₁ _ E hA S st1 q) (fun vs s₂ h'2=>?_) am)
 obtain ⟨ts,F'2,ρ2,hl,q,st2,y'2,r⟩:=h'2
 obtain ⟨t,ht,q⟩:=aW q
 have ro2:=y'2.step.vr st1 ro
 exact ax (I4 hA.u ro2.q (fun _=>ro2) r ht) (fun u s'3 h'3=>h'3.epost (y'1.trans y'2) st2 q) am
theorem JY {o:Expr} {m:Str} {b:BM} (hb:fe o=true) (hn:gY args=true) (hp:(ap.endLine==pos.line)=true) (hm:HN m=some b) (hv:b≠.values) (ho:cX W C n sc (eval o) (bA tb sc o)) (ha:xZ W C n sc args ds) :
  cX W C n sc (eval (.Call (.Attribute o m ap) args [] pos)) (Aq b (bf tb sc o (bA tb sc o)) ds):=by
 rcases nL (sc:=sc) (value:=o) with ⟨x,p,j,rfl,hx,hj,e⟩ | e
 ·intro A env F G ρ s Q E hA S st q
  rw [e] at q
  obtain ⟨en,hf,ld⟩:=S.loads hx (dj hj)
  obtain ⟨hr,q⟩:=q
  obtain ⟨to,v,hk,hv1,ro⟩:=st.peek hf hr
  refine iz hb hn hp (ld hv1 fun pl=>?_)
  rw [zy hm]
  refine Fy ro hk ?_
  refine An (fP (bu hn)) (ax (ha pos A env F G ρ s _ E hA S st q) (fun vs s₂ h'2=>?_) am)
  obtain ⟨ts,F'2,ρ2,hl,q,st2,y'2,r⟩:=h'2
  obtain ⟨to',v',q,hv2,ro'⟩:=st2.peek hf q
  have hvv:v=v':=az ((hv1.keep fun o=>y'2.pl en (ck hf) o).inj hv2)
  subst hvv
  obtain ⟨t,ht,q⟩:=aW q
  exact ax (I4 hA.u ro' (fun e=>absurd e hv) r ht) (fun u s'3 h'3=>h'3.epost y'2 st2 q) am
 ·rw [e]
  exact Et hb hn hp hm ho ha
end
end
section
theorem yl {h:Heap} {C:Addr} (Y:Makes M h C):Looks M h (keeperOf (.ref C)) .machine:=by
 obtain ⟨oc,od,cd,sl,hC,_⟩:=Y.obj
 exact (Looks.ld (part:=none) hC).andThen (Y.call.andThen .now)
theorem ny {f:Value} {first:List Value} {args:List (Bool×Sem Value)} (hplain:args.any (·.1)=false)
  (h:wpAny M A (evalArgs f true args []) (fun a s₁=>Looks M s₁.heap (keeperOf f) .machine∧wpAny M A (call f (first++a.pos) a.kw) Q E s₁) E s):wpAny M A (callWith pos f first args []) Q E s:=by
 unfold callWith
 refine ac (b4 (ax h (fun a s₁ h'1=>ac (dJ ?_)) fun _ _ x=>x))
 obtain ⟨L,h'1⟩:=h'1
 have hs:(args.any (·.1)||([]:List (Option Str×Sem Value)).any (·.1.isNone))=false:=by rw [hplain];rfl
 refine ac (L.here ?_)
 rw [hs]
 exact ac (ax h'1 (fun r s₂ hr=>ac (b4 (wpAny_point (al hr)))) fun _ _ x=>x)
section
variable {W:Wd} {C:aC} {n:Nat} {sc:Scope}
theorem MX:∀ c,c < 14→lh c < 79∧gW (lh c)=0:=by decide +kernel
theorem IG (hw:gZ W) (hC:cC W C n) {c:Nat} (hg:cw sc x=true) (hd:(x==("__debug__":Str))=false) (hn:gY args=true) (hi:tb.cls x=some (c,i)) (ha:xZ W C n sc args ds) :
  sA W C n sc (eval (.Call (.Name x p) args [] pos)) (dE c i ds):=by
 intro A env F G ρ s Q E hA S st q
 refine Call_Name rfl (S.gets hg hd hw st.world (.inl (hw.cn x c i hi).1) ?_)
 refine ny (fP (bu hn)) (gh (fP (bu hn)) (ax (ha pos A env F G ρ s _ E hA S st q) (fun vs s₁ h'1=>?_) am))
 obtain ⟨ts,F'1,ρ1,hl,⟨hc,q⟩,st1,y'1,r⟩:=h'1
 have K:=hw.cls c hc
 have hin:=hw.K.keeps st1.world
 have Y:=makes_of (M:=model W.prog W.w) hin K.mks
 refine ⟨yl Y,wpAny_call ?_⟩
 have hii:=(hw.cn x c i hi).2 hc
 subst hii
 obtain ⟨hi79,hr0⟩:=MX c hc
 obtain ⟨h,g,d,t,os⟩:=s₁
 refine make_core Y (looks_findIn hin K.ini) (fun self=>bind_fn hin self K.ift) (.inl rfl) ?_
 have k:∀ b o,h.get? b=some o→((h.push emptyDict).push (instObj (W.ca c) h.objs.size)).get? b=some o:=fun b o e=>bU _ (bU _ e)
 have nx:h.get? (h.objs.size+1)=none:=by
  induction q:h.get? (h.objs.size+1) with
  | none=>rfl
  | some o=>exact absurd (ei q) (Nat.not_lt.mpr (Nat.le_succ _))
 have nd:h.get? h.objs.size=none:=aS h
 have fr:∀ a∈[h.objs.size+1,h.objs.size],h.get? a=none:=by
  intro a ha
  rcases aU.mp ha with rfl | ha
  ·exact nx
  ·rw [aV.mp ha];exact nd
 have gx:((h.push emptyDict).push (instObj (W.ca c) h.objs.size)).get? (h.objs.size+1)=some (instObj (W.ca c) h.objs.size):=by
  have:=dH (h.push emptyDict) (o:=instObj (W.ca c) h.objs.size) rfl
  rwa [Heap.size_push] at this
 have gd:((h.push emptyDict).push (instObj (W.ca c) h.objs.size)).get? h.objs.size=some emptyDict:=bU _ (dH _ rfl)
 have gr:cf F'1 ⟨h,g,d,t,os⟩ F'1 ⟨(h.push emptyDict).push (instObj (W.ca c) h.objs.size),g,d,t,os⟩:=⟨rfl,rfl,fun b o=>k b o,fun _ e=>e,fun _=>.inl⟩
 obtain ⟨st2,y'2⟩:=st1.grow gr
 have own0:∀ a∈[h.objs.size+1,h.objs.size],¬ F'1 a∧W.h0.get? a=none:=by
  intro a ha
  refine ⟨fun f=>?_,?_⟩
  ·obtain ⟨o,e⟩:=st1.live a f
   have e:h.get? a=some o:=e
   rw [fr a ha] at e;exact nn e
  ·induction e:W.h0.get? a with
   | none=>rfl
   | some o=>
    have e:h.get? a=some o:=st1.world a o e
    rw [fr a ha] at e;exact nomatch e
 have z:=hC (lh c) ts (some (.inst c [])) _ (A.under (.builtin "type.__call__" ⟨.ref (W.ca c)::([]++vs),[]⟩)) F'1 ⟨(h.push emptyDict).push (instObj (W.ca c) h.objs.size),g,d,t,os⟩ vs (some (.ref (h.objs.size+1))) [h.objs.size+1,h.objs.size] E
  ⟨hA.handled,by have:=hA.depth;show A.depth+1+2*n≤901;lia,by have:=hA.units;show A.units+1+20*n≤9001;lia⟩ hi79 st2.world st2.base st2.live (r.grow gr) (show gu W F'1 _ _ (.inst c []) _ from .inst rfl gx gd (cr _) .nil) (by simp) own0 q
 rw [hr0] at z
 refine codeAny_mono z fun r s' z=>?_
 have other:∀ fl,(∀ v,fl≠Flow.ret v)→FI E (zD W F'1 [h.objs.size+1,h.objs.size] ⟨(h.push emptyDict).push (instObj (W.ca c) h.objs.size),g,d,t,os⟩ (some (Value.ref (h.objs.size+1))) fun r t'=>r=T.none∧fX t' fun t'=>Q t' ρ1) (.ok fl) s'→False:=fun fl hf z=>by induction fl<;>first | exact z | exact hf _ rfl
 induction r with
 | error e=>exact z
 | ok fl=>
 by_cases hfl:∃ v,fl=Flow.ret v
 ·obtain ⟨v,rfl⟩:=hfl
  obtain ⟨tr,r',F',⟨rfl,q⟩,af,rv,rr,nF⟩:=z
  obtain ⟨t',rfl,q⟩:=aW q
  refine ⟨rv.q.none_inv,?_⟩
  have g'2:cf F'1 ⟨h,g,d,t,os⟩ F' s':=⟨af.gens,af.os,fun b o e=>af.keep b o (fun m=>by rw [fr b m] at e;exact nn e) (k b o e),af.mono,fun a f=>by
   rcases af.fresh a f with f | ⟨f,l⟩
   ·exact .inl f
   ·refine .inr ⟨?_,l⟩
    induction e:h.get? a with
    | none=>rfl
    | some o=>rw [k a o e] at f;exact nomatch f⟩
  obtain ⟨st3,y'3⟩:=st1.grow g'2
  exact ⟨t',F',ρ1,[h.objs.size+1,h.objs.size],q,st3,y'1.trans y'3,rr,by simp,fun a ha=>⟨y'1.step.lives a (fr a ha),nF a ha⟩⟩
 ·exact (other fl (fun v e=>hfl ⟨v,e⟩) z).elim
theorem LJ (hw:gZ W) (hC:cC W C n) {c:Nat} (hg:cw sc x=true) (hd:(x==("__debug__":Str))=false) (hn:gY args=true) (hi:tb.cls x=some (c,i)) (ha:xZ W C n sc args ds) :
  cX W C n sc (eval (.Call (.Name x p) args [] pos)) (dE c i ds):=fun A env F G ρ s Q E hA S st q=>
 ax (IG hw hC hg hd hn hi ha A env F G ρ s Q E hA S st q) (fun v s' z=>z.epost st) am
theorem vT {K:Frag} {h:Heap} {cd:ClassData} (X:K.In h) (e:clsIn K a=some cd):Looks M h (isType (.ref a)) true:=by
 intro A Q E s k q
 unfold clsIn at e
 induction ho:K.lookup a with
 | none=>rw [ho] at e;exact nn e
 | some o=>
  rw [ho] at e
  unfold isType loadHead
  refine ac (wpAny_loadPart (k _ _ (X _ _ ho)) ?_)
  clear ho
  obtain ⟨c,d,dat,sl⟩:=o
  induction dat with
  | cls cd=>exact al q
  | _=>exact nn e
theorem Bx (hw:gZ W) {pc:Pos} {a:Expr} {c:Nat} {d:SE} (hg:cw sc "isinstance"=true) (hn:gY [a,.Name y pc]=true) (hy:cw sc y=true) (hdy:(y==("__debug__":Str))=false) (hi:tb.cls y=some (c,i)) (ha:cX W C n sc (eval a) d) :
  cX W C n sc (eval (.Call (.Name "isinstance" p) [a,.Name y pc] [] pos)) (qc d c):=by
 intro A env F G ρ s Q E hA S st q
 refine Call_Name rfl (S.gets hg (by decide) hw st.world (.inr hw.bi) ?_)
 refine Calls.callWith_builtin (fP (bu hn)) (gh (fP (bu hn)) ?_)
 have hs:=bu hn
 rw [List.all_cons,bC] at hs
 rw [dA hs.1]
 refine Calls.spliced_cons (ax (ha A env F G ρ s _ E hA S st q) (fun v s₁ h'1=>?_) am)
 obtain ⟨t,F'1,ρ1,q,st1,y'1,r⟩:=h'1
 obtain ⟨p,hp,hd14,rfl,qf⟩:=aW q
 rw [pW hp] at r
 rw [dA (e:=.Name y pc) (es:=[]) rfl]
 refine Calls.spliced_cons (S.gets hy hdy hw st1.world (.inl (hw.cn y 14 i hi).1) (Calls.spliced_nil ?_))
 obtain ⟨es,a',dx,ep,rfl,g,g',l,rr⟩:=r.q.inst_inv
 have K:=hw.cls p.1 hd14
 obtain ⟨cd,hcd,hdict⟩:=K.cd
 refine kin_call (od:=aL es ep) (by unfold plainGet;rw [K.ga,K.gat];rfl) (by unfold hasDictIn;rw [hcd];exact hdict) K.cl hw.gsp hw.tks K.ob (hw.K.keeps st1.world) (vX g g')
  (fun M h' X=>looks_typeIn X hw.t14) (fun M h' X=>?_) K.ne (fun M h' X=>looks_subIn X K.nsub) ?_
 ·obtain ⟨cd14,hc14⟩:=hw.c14
  exact vT X hc14
 ·exact fy.epost (s₂:={ s₁ with toks:=s₁.toks+1 }) y'1 st1 (fy.of_toks (.bool _)) qf
end
end
section
noncomputable def push (env:PySem.Env) (cs:List (Str×Addr)) (p:Str×NameKind):List (Str×Addr):=
 if p.2==.free then (match env.cells.lookup p.1 with | some a=>(p.1,a)::cs | none=>cs) else cs
noncomputable def clos (env:PySem.Env) (ns:List (Str×NameKind)) (cs:List (Str×Addr)):List (Str×Addr):=ns.foldl (push env) cs
theorem BX {p:Str×NameKind} {cs:List (Str×Addr)} (h:p.2=.free→∃ a,env.cells.lookup p.1=some a) :
  (if p.2==NameKind.free then (do let a ← cellOf env p.1;pure (ForInStep.yield ((p.1,a)::cs))) else pure (ForInStep.yield cs):Sem (ForInStep (List (Str×Addr))))=pure (.yield (push env cs p)):=by
 unfold push
 induction q:p.2==.free with
 | true=>
  obtain ⟨a,ha⟩:=h (bp.mp q)
  rw [au rfl,au rfl,ha]
  unfold cellOf
  rw [ha];exact pure_bind _ _
 | false=>rfl
theorem GA (h:∀ p∈sc.names,p.2=.free→∃ a,env.cells.lookup p.1=some a):closureFor sc env=pure (clos env sc.names []):=by
 unfold closureFor
 generalize sc.names=ns at h ⊢
 show (forIn ns [] _ >>= fun cs=>pure cs)=_
 suffices hs:∀ cs,(forIn ns cs fun (p:Str×NameKind) (cs:List (Str×Addr))=>(if p.2==NameKind.free then (do let a ← cellOf env p.1;pure (ForInStep.yield ((p.1,a)::cs))) else pure (ForInStep.yield cs):Sem (ForInStep (List (Str×Addr)))))=pure (clos env ns cs) by
  rw [← pure_bind (clos env ns []) (fun cs=>(pure cs:Sem _)),← hs []]
 induction ns with
 | nil=>intro cs;rfl
 | cons p ns ih=>
  intro cs
  rw [List.forIn_cons,BX (h p (.head _)),pure_bind]
  exact ih (fun p m=>h p (.tail _ m)) _
theorem H6 {cs:List (Str×Addr)} {p:Str×NameKind} (e:x≠p.1):(push env cs p).lookup x=cs.lookup x:=by
 unfold push
 induction p.2==.free with
 | false=>rfl
 | true=>
  rw [au rfl]
  induction env.cells.lookup p.1 with
  | none=>rfl
  | some a=>exact by rw [i7,eF.mpr e]
theorem BE:∀ {cs:List (Str×Addr)},x∉ns.map (·.1)→(clos env ns cs).lookup x=cs.lookup x:=by
 induction ns with
 | nil=>exact fun _=>rfl
 | cons p r ih=>
  intro cs h
  rw [c8,aU,not_or] at h
  exact (ih h.2).trans (H6 h.1)
theorem BU {c:Addr} (nd:(ns.map (·.1)).Nodup) (m:(x,NameKind.free)∈ns) (l:env.cells.lookup x=some c):∀ cs,(clos env ns cs).lookup x=some c:=by
 induction ns with
 | nil=>exact nomatch m
 | cons p r ih=>
  intro cs
  rw [c8,cO] at nd
  rcases aU.mp m with e | m
  ·rw [← e] at nd ⊢
   refine (BE nd.1).trans ?_
   show (match env.cells.lookup x with | some a=>(x,a)::cs | none=>cs).lookup x=_
   rw [l,i7,beq_self_eq_true]
  ·exact ih nd.2 m _
theorem PI:¬ bm i ".0":=fun h=>by
 have:(".0":Str)∉mX:=by decide +kernel
 exact this (List.mem_of_getElem? h)
theorem kU {k:α} {ns:List (Str×α)} (nd:(ns.map (·.1)).Nodup) (h:(x,k)∈ns):ns.lookup x=some k:=by
 induction ns with
 | nil=>exact nomatch h
 | cons p r ih=>
  rw [c8,cO] at nd
  rw [i7]
  rcases aU.mp h with e | h
  ·rw [← e,beq_self_eq_true]
  ·rw [eF.mpr (fun e=>nd.1 (e▸List.mem_map_of_mem (f:=(·.1)) h):x≠p.1)]
   exact ih nd.2 h
theorem gA (h:dO tb (x::xs)=some is) (k:∀ j js,tb.id x=some j→dO tb xs=some js→is=j::js→P):P:=dy h fun j hj h=>eU h fun js hjs z=>k j js hj hjs z
theorem y0 {C:Addr} (hi:bm i x):∀ {is:List Nm},dO tb xs=some is→x∈xs→∃ e,first (bP C xs is++G) i=some e∧e.pl=.loc C x:=by
 induction xs with
 | nil=>intro is _ m;exact nomatch m
 | cons y xs ih=>
  intro is h m
  refine gA h fun j js hj hjs z=>?_
  have hj:=dj hj
  rw [z]
  show ∃ e,List.find? _ (_::_)=some e∧_
  rw [List.find?_cons]
  by_cases e:j=i
  ·have ey:y=x:=hj.fn (e▸hi)
   exact ⟨_,by rw [show (j==i)=true from bp.mpr e],aw (dq.loc C) ey⟩
  ·rw [show (j==i)=false from eF.mpr e]
   exact ih hjs ((aU.mp m).resolve_left fun z=>e (hj.inj (z▸hi)))
theorem yF {C:Addr} (hi:bm i x):∀ {is:List Nm},dO tb xs=some is→x∉xs→first (bP C xs is++G) i=first G i:=by
 induction xs with
 | nil=>intro is h m;rw [← az h];rfl
 | cons y xs ih=>
  intro is h m
  refine gA h fun j js hj hjs z=>?_
  have m:=not_or.mp fun k=>m (aU.mpr k)
  rw [z]
  show List.find? _ (_::_)=_
  rw [List.find?_cons,show (j==i)=false from eF.mpr fun e=>m.1 (hi.fn (e▸dj hj))]
  exact ih hjs m.2
theorem mO:∀ {is:List Nm},dO tb xs=some is→xs.length=is.length:=by
 induction xs with
 | nil=>intro is h;rw [← az h];rfl
 | cons y xs ih=>intro is h;exact gA h fun j js _ hjs z=>z▸aw (·+1) (ih hjs)
theorem ym (f:Str→α→α) {ns:List (Str×α)}:(ns.map fun p=>(p.1,f p.1 p.2)).lookup x=(ns.lookup x).map (f x):=by
 induction ns with
 | nil=>rfl
 | cons p r ih=>
  rw [c8,i7,i7]
  induction q:x==p.1 with
  | true=>exact aw (fun y=>some (f y p.2)) (bp.mp q).symm
  | false=>exact ih
theorem jF:(ns.map fun (n,k)=>if (k==NameKind.free&&env.scope.kind==.function&&env.kindOf n==some .cell) then (n,NameKind.cell) else (n,k)).lookup x =
  (ns.lookup x).map fun k=>if (k==NameKind.free&&env.scope.kind==.function&&env.kindOf x==some .cell) then NameKind.cell else k:=by
 refine (aw (List.lookup x) (iv fun p _=>?_)).trans (ym fun n k=>if (k==NameKind.free&&env.scope.kind==.function&&env.kindOf n==some .cell) then NameKind.cell else k)
 exact (apply_ite (Prod.mk p.1) _ _ _).symm
section
variable {W:Wd} {out sc:PySem.Scope} {env:PySem.Env} {G:List bY}
structure fu (out sc:PySem.Scope):Prop where
 kind:sc.kind=.function
 nd:(sc.names.map (·.1)).Nodup
 ne:aX sc≠[]
 cell:∀ p∈sc.names,p.2≠.cell
 free:∀ x,(x,NameKind.free)∈sc.names→(out.names.lookup x=some .cell∨out.names.lookup x=some .free)∧∃ i,bm i x
theorem so (ok:y8 tb out sc=true):fu out sc:=by
 have ok:=cz.mp ok
 have ok1:=cz.mp ok.1
 have ok2:=cz.mp ok1.1
 have h3:=aY.mp ok.2
 refine ⟨bp.mp ok2.1,bI ok1.2,(fun e=>by have:=ok2.2;rw [e] at this;exact bt this),fun p m e=>?_,fun x m=>?_⟩
 ·have:=h3 p m
  rw [e] at this;exact bt this
 ·have:=cz.mp (h3 _ m)
  obtain ⟨i,hi⟩:=Option.isSome_iff_exists.mp this.2
  exact ⟨(Bool.or_eq_true_iff.mp this.1).imp oN oN,i,dj hi⟩
theorem dg.cells (S:dg W out env G) (K:fu out sc) (m:(x,NameKind.free)∈sc.names):(env.kindOf x=some .cell∨env.kindOf x=some .free)∧∃ i e c,bm i x∧first G i=some e∧e.pl=.cell c∧env.cells.lookup x=some c:=by
 obtain ⟨h,i,hi⟩:=K.free x m
 rcases h with h | h
 ·obtain ⟨a,e,c,r⟩:=S.cel x i h hi;exact ⟨.inl a,i,e,c,hi,r⟩
 ·obtain ⟨a,e,c,r⟩:=S.fre x i h hi;exact ⟨a,i,e,c,hi,r⟩
theorem FN (S:dg W out env G) (K:fu out sc):closureFor sc env=pure (clos env sc.names []):=
 GA fun p m e=>by obtain ⟨n,k⟩:=p;obtain rfl:=e;obtain ⟨_,_,_,c,_,_,_,h⟩:=S.cells K m;exact ⟨c,h⟩
theorem ur (S:dg W out env G) (K:fu out sc) (hv:dO tb (aX sc)=some is) {C:Addr}:dg W sc (compEnvC sc (clos env sc.names []) C env) (bP C (aX sc) is++G) where
 kind:=K.kind
 g:=S.g
 b:=S.b
 loc:=fun x i h hi=>⟨lookup_relabel_local h,y0 hi hv (by
  unfold aX
  refine bo.mpr ⟨(x,.local),b8.mpr ⟨eB h,?_⟩,rfl⟩
  have:x≠".0":=fun e=>PI (e▸hi)
  simp [this])⟩
 cel:=fun x i h hi=>absurd rfl (K.cell _ (eB h))
 fre:=fun x i h hi=>by
  obtain ⟨a,j,e,c,hj,f,r,l⟩:=S.cells K (eB h)
  have:=hj.inj hi
  subst this
  refine ⟨?_,e,c,?_,r,?_⟩
  ·show List.lookup x (relabel sc env).names=_∨List.lookup x (relabel sc env).names=_
   unfold relabel
   rw [jF,h]
   simp only [Option.map_some]
   split
   ·exact .inl rfl
   ·exact .inr rfl
  ·rw [yF hi hv ?_];exact f
   intro m
   obtain ⟨p,hp,e⟩:=bo.mp m
   obtain ⟨hp,hk⟩:=b8.mp hp
   have:=kU K.nd (k:=p.2) (x:=x) (by rw [← e];exact hp)
   rw [h] at this
   have hk2:p.2=.free:=by injection this with this;exact this.symm
   rw [hk2] at hk
   simp at hk
  ·show (clos env sc.names []).lookup x=some c
   exact BU K.nd (eB h) l []
 glo:=fun x h=>by
  show List.lookup x (relabel sc env).names=_
  unfold relabel
  rw [jF,h];rfl
end
end
section
section
variable {W:Wd} {sc:PySem.Scope} {env:PySem.Env} {G H:List bY} {F:Addr→Prop} {ρ:Env} {s:Shared} {M:Model} {A:Around} {E:Value→Shared→Prop}
theorem t3 (h:cu sc x=true):sc.names.lookup x=some .local∨sc.names.lookup x=some .cell:=by
 exact (Bool.or_eq_true_iff.mp h).imp oN oN
theorem jQ (S:dg W sc env G) (h:cu sc x=true) (hi:bm i x) (st:St W F G ρ s) :
  ∃ e,first G i=some e∧(e.pl.addr=env.locals∨∃ c,e.pl=.cell c∧sc.names.lookup x=some .cell)∧∀ {Q:Unit→Shared→Prop},(∀ s',s'.gens=s.gens→s'.os=s.os→(∀ b o,b≠e.pl.addr→s.heap.get? b=some o→s'.heap.get? b=some o)→
   (∀ p:dq,p≠e.pl→∀ u,p.Holds s.heap u→p.Holds s'.heap u)→e.pl.Holds s'.heap (some v)→Q () s')→wpAny M A (storeName env x v) Q E s:=by
 have hp:(env.scope.kind==.class||(env.scope.kind==.module&&env.locals != env.globals))=false:=by rw [S.kind];rfl
 rcases t3 h with hl | hl
 ·obtain ⟨hk,e,hf,hpl⟩:=S.loc x i hl hi
  refine ⟨e,hf,.inl (by rw [hpl];rfl),fun {Q} q=>?_⟩
  have lk:=st.look hf
  have holds:∃ u,e.pl.Holds s.heap u:=by
   induction hs:ρ.get i with
   | unb=>rw [hs] at lk;exact ⟨_,lk⟩
   | val t=>rw [hs] at lk;obtain ⟨v,a,_⟩:=lk;exact ⟨_,a⟩
   | own fx t=>rw [hs] at lk;obtain ⟨v,a,_⟩:=lk;exact ⟨_,a⟩
  obtain ⟨u,hu⟩:=holds
  rw [hpl] at hu
  obtain ⟨m,hn,_⟩:=hu
  refine wpAny_storeName_local hk hn (fun h' hn' hs'=>q _ rfl rfl (fun b o hb e'=>hs'.extBut b o (by rw [hpl] at hb;exact hb) e') (fun p hp u hu=>CR hn hn' hs' p (by rw [hpl] at hp;exact hp) u hu) ?_) hp
  rw [hpl];exact ⟨_,hn',by simp⟩
 ·obtain ⟨hk,e,c,hf,hpl,hc⟩:=S.cel x i hl hi
  refine ⟨e,hf,.inr ⟨c,hpl,hl⟩,fun {Q} q=>?_⟩
  have lk:=st.look hf
  have holds:∃ u,e.pl.Holds s.heap u:=by
   induction hs:ρ.get i with
   | unb=>rw [hs] at lk;exact ⟨_,lk⟩
   | val t=>rw [hs] at lk;obtain ⟨v,a,_⟩:=lk;exact ⟨_,a⟩
   | own fx t=>rw [hs] at lk;obtain ⟨v,a,_⟩:=lk;exact ⟨_,a⟩
  obtain ⟨u,hu⟩:=holds
  rw [hpl] at hu
  refine wpAny_storeName_cell S.kind hk hc hu (fun h' hn' hs'=>q _ rfl rfl (fun b o hb e'=>hs'.extBut b o (by rw [hpl] at hb;exact hb) e') (fun p hp u' hu'=>yJ hu hs' p (by rw [hpl] at hp;exact hp) u' hu') ?_)
  rw [hpl];exact hn'
theorem Cl (S:dg W sc env G) (h:cu sc x=true) (hi:bm i x) (st:St W F G ρ s) {t:T} (r:VR W F s.heap t v) (hH:∀ e,first G i=some e→∀ e'∈H,e'.pl.addr≠e.pl.addr) :
  wpAny M A (storeName env x v) (fun _ s'=>St W F G (ρ.set i (.val t)) s'∧cG H F G ρ s F (ρ.set i (.val t)) s') E s:=by
 obtain ⟨e,hf,_,go⟩:=jQ (M:=M) (A:=A) (E:=E) S h hi st (v:=v)
 refine go fun s' hg ho hk hoth hv=>?_
 have nF:¬ F e.pl.addr:=st.plF e (ck hf)
 obtain ⟨G',e1,e2,st',y⟩:=st.store .refl (as:=e.own) (sl':=.val t) hf hk hoth ⟨v,hv,r.mono (fun _ f=>f) fun a o f=>hk a o fun z=>nF (z▸f)⟩ cJ (fun a m=>nomatch m) (fun a m=>nomatch m) (fun a m=>nomatch m) (fun a m=>nomatch m) (fun a m=>nomatch m) (fun _ e=>nomatch e) hg ho
 have:=e1 rfl
 subst this
 exact ⟨st',y,fun e' he' o h=>hk _ o (hH e hf e' he') h,fun a ha=>(e2 a ha).elim (fun m=>nomatch m) id⟩
theorem oC (S:dg W sc env G) (h:cu sc x=true) (hi:bm i x) (st:St W F G ρ s) {t:T} (r:VR W F s.heap t v) (hH:∀ e,first G i=some e→∀ e'∈H,e'.pl.addr≠e.pl.addr) :
  wpAny M A (assign (.Name x p) env v) (fun _ s'=>St W F G (ρ.set i (.val t)) s'∧cG H F G ρ s F (ρ.set i (.val t)) s') E s:=wpAny_assign_Name (Cl S h hi st r hH)
theorem xp {e:Expr} {is:List Nat} (h:iN tb sc (e::es)=some is) (k:∀ x p i js,e=.Name x p→cu sc x=true→tb.id x=some i→iN tb sc es=some js→is=i::js→P):P:=
 dy h fun x h1 h=>sD h fun h2 h=>dy h fun i h3 h=>eU h fun js h4 z=>mv h1 fun p h5=>k x p i js h5 h2 h3 h4 z
theorem uO (S:dg W sc env G) (hH:∀ x i,cu sc x=true→bm i x→∀ e,first G i=some e→∀ e'∈H,e'.pl.addr≠e.pl.addr):∀ {is:List Nm} {ts:List T} {vs:List Value} {ρ:Env} {s:Shared},iN tb sc es=some is→St W F G ρ s→bR W F s.heap ts vs→ts.length=is.length→
  wpAny M A (assignInOrder ((assignEach es env).map (·.2)) vs) (fun _ s'=>St W F G (mJ is ts ρ) s'∧cG H F G ρ s F (mJ is ts ρ) s') E s:=by
 induction es with
 | nil=>
  intro is ts vs ρ s h st r l
  obtain rfl:=az h
  obtain rfl:=eC l
  rw [r.inv0];exact al ⟨st,.refl⟩
 | cons e es ih=>
  intro is ts vs ρ s h st r l
  refine xp h fun x p i js h1 hx hi hjs z=>?_
  subst h1;subst z
  induction ts with
  | nil=>exact nomatch l
  | cons t ts=>
   obtain ⟨v,vs,rv,r2⟩:=r.inv
   have z:=oC (M:=M) (A:=A) (E:=E) S (p:=p) hx (dj hi) st rv (hH x i hx (dj hi))
   refine ac (m:=holding _ _) (b4 (ax z (fun _ s₁ h'1=>?_) am))
   exact ax (ih hjs h'1.1 (h'1.2.step.vrs st r2) (Nat.succ.inj l)) (fun _ s₂ h'2=>⟨h'2.1,h'1.2.trans h'2.2⟩) am
theorem Em:∀ {is:List Nm},iN tb sc es=some is→(assignEach es env).length=is.length∧(assignEach es env).findIdx? (·.1)=none:=by
 induction es with
 | nil=>intro is h;obtain rfl:=az h;exact ⟨rfl,rfl⟩
 | cons e es ih=>
  intro is h
  refine xp h fun x p i js h1 hx hi hjs z=>?_
  subst h1;subst z
  obtain ⟨h1,h2⟩:=ih hjs
  refine ⟨aw (·+1) h1,?_⟩
  show List.findIdx? (·.1) ((false,assign (.Name x p) env)::assignEach es env)=none
  rw [List.findIdx?_cons,h2];rfl
theorem u0 {g:m8} (hh:A.handled=none) (S:dg W sc env G) (hH:∀ x i,cu sc x=true→bm i x→∀ e,first G i=some e→∀ e'∈H,e'.pl.addr≠e.pl.addr) (hHG:∀ e∈H,e∈G) (h:eQ tb sc tgt=some g) (st:St W F G ρ s) {t:T} (r:VR W F s.heap t v) {Q:Env→Prop} (q:eD g t ρ Q) :
  wpAny (model W.prog W.w) A (assign tgt env v) (fun _ s'=>∃ ρ',Q ρ'∧St W F G ρ' s'∧cG H F G ρ s F ρ' s') E s:=by
 unfold eQ at h
 induction htu:Fb tgt with
 | none=>
  rw [htu] at h
  refine dy h fun x h1 h=>sD h fun hx h=>eU h fun i hi z=>mv h1 fun p h2=>?_
  subst h2;subst z
  exact ax (oC S hx (dj hi) st r (hH x i hx (dj hi))) (fun _ s' z=>⟨_,q,z⟩) am
 | some es=>
  rw [htu] at h
  refine eU h fun is his z=>C4 htu fun c p h2=>?_
  subst h2;subst z
  refine cps fun GG kk=>?_
  cases t with
  | tup ts=>
   refine kk ?_
   have q:if ts.length=is.length then Q (mJ is ts ρ) else False:=q
   by_cases hl:ts.length=is.length
   ·rw [au hl] at q
    obtain ⟨vs,a,n,rfl,gg,_,rr⟩:=r.q.tup_inv
    obtain ⟨h1,h2⟩:=Em (env:=env) his
    refine wpAny_assign_Tuple hh (items:=vs.toArray) ⟨_,gg,rfl,n,rfl⟩ (by rw [h1,← hl,rr.length];rfl) h2 fun h' hx=>?_
    have gr:cf F s F { s with heap:=h' }:=⟨rfl,rfl,fun b o e=>hx b o (fun z=>nn ((z▸aS _).symm.trans e)) e,fun _ f=>f,fun _=>.inl⟩
    obtain ⟨st1,y'1⟩:=st.grow gr
    refine ax (uO S hH his st1 (rr.grow gr) hl) (fun _ s' z=>⟨_,q,z.1,(y'1.h hHG).trans z.2⟩) am
   ·rw [av hl] at q;exact q.elim
  | _=>exact (show False from q).elim
end
end
section
noncomputable def vp (ifs:List Expr) (env:PySem.Env) (b:Bool):Sem Bool:=forIn ifs b fun c r=>if r=true then do let ok ← isTrue c env (eval c env);pure (ForInStep.yield ok) else pure (ForInStep.yield r)
theorem Cf {ifs:List Expr}:∀ {s:Shared} {Q:Bool→Shared→Prop},Q false s→wpAny M A (vp ifs env false) Q E s:=by
 induction ifs with
 | nil=>intro s Q q;exact al q
 | cons c ifs ih=>
  intro s Q q
  unfold vp
  rw [List.forIn_cons]
  refine ac ?_
  rw [av (by decide)]
  exact al (ih q)
section
variable {W:Wd} {C:aC} {n:Nat} {sc:PySem.Scope}
theorem DX {ifs:List Expr} (H:∀ c∈ifs,nS W C n sc (fun env=>isTrue c env (eval c env)) (jV tb sc c (bf tb sc c (bA tb sc c)))):nS W C n sc (fun env=>vp ifs env true) (hB tb sc .And ifs):=by
 induction ifs with
 | nil=>intro A env F G ρ s Q E hA S st q;exact al ⟨F,ρ,q,st,.refl⟩
 | cons c ifs ih=>
  intro A env F G ρ s Q E hA S st q
  show wpAny _ _ (vp (c::ifs) env true) _ _ _
  unfold vp
  rw [List.forIn_cons]
  refine ac ?_
  rw [au rfl]
  refine ac (ax (H c (.head _) A env F G ρ s _ E hA S st q) (fun b s₁ h'1=>al ?_) am)
  obtain ⟨F'1,ρ1,q,st1,y'1⟩:=h'1
  induction b with
  | false=>exact Cf ⟨F'1,ρ1,q,st1,y'1⟩
  | true=>
   refine ax (ih (fun c m=>H c (.tail _ m)) A env F'1 G ρ1 s₁ _ E hA S st1 q) (fun b s₂ h'2=>?_) am
   obtain ⟨F'2,ρ2,q,st2,y'2⟩:=h'2
   exact ⟨F'2,ρ2,q,st2,y'1.trans y'2⟩
theorem Lc {prog:Program} {w:World} {R:Result→Shared→Prop} {target:Expr} {ifs:List Expr} {it acc:Value} (I:Nat→Shared→Prop)
  (turn:∀ n s,I n s→wpAny (model prog w) A (pyNext it) (fun r s₁=>match r with
   | none=>R (.ok .next) s₁
   | some v=>wpAny (model prog w) A (letOwnedTupleGo target it v) (fun _ s₁=>wpAny (model prog w) A (assign target env v) (fun _ s₂=>
     wpAny (model prog w) A (vp ifs env true) (fun ok s'3=>
      if ok=true then wpAny (model prog w) A (eval elt env) (fun x s'4=>
       wpAny (model prog w) A (call (.builtin "list.append") [acc,x]) (fun _ s'5=>∃ m,m < n∧I m s'5) (notedBy (model prog w) A env fun e s'=>R (.error e) s') s'4) (notedBy (model prog w) A env fun e s'=>R (.error e) s') s'3
      else ∃ m,m < n∧I m s'3) (notedBy (model prog w) A env fun e s'=>R (.error e) s') s₂) (notedBy (model prog w) A env fun e s'=>R (.error e) s') s₁) (notedBy (model prog w) A env fun e s'=>R (.error e) s') s₁) (notedBy (model prog w) A env fun e s'=>R (.error e) s') s)
  (n:Nat) (h:I n s):codeAny (model prog w) A (.compLoop (.ListComp elt [⟨target,iter,ifs,0⟩] scope pos) 0 it acc env) R s:=by
 refine codeAny_loop rfl I (fun n s hI=>?_) n h
 show wpAny _ A ((compTurn (.ListComp elt [⟨target,iter,ifs,0⟩] scope pos) 0 it acc env).onRaise (fun x=>do noteFrame x env;theTreesLotGoes x)) _ _ s
 refine wpAny_noted ?_
 rw [compTurn_list]
 refine ac (dJ (ac (ax (turn n s hI) (fun r s₁ h'1=>?_) fun _ _ h'=>h')))
 induction r with
 | none=>exact al h'1
 | some v=>
  refine ac (ax h'1 (fun _ s₁ h'1=>?_) fun _ _ h'=>h')
  refine ac (ax h'1 (fun _ s₂ h'2=>ac (ax h'2 (fun ok s'3 h'3=>?_) fun _ _ h'=>h')) fun _ _ h'=>h')
  induction ok with
  | false=>exact al ⟨rfl,h'3⟩
  | true=>
   exact ac (ac (ax h'3 (fun x s'4 h'4=>ac (ax h'4 (fun _ s'5 h'5=>al (al ⟨rfl,h'5⟩)) fun _ _ h'=>h')) fun _ _ h'=>h'))
theorem CK {m:Nat} {h:Heap} (hg:h.get? a=some (seqObj "list" vs.toArray m)):h.PlainList a vs.toArray:=⟨m,hg⟩
section
variable {GG H:List bY} {F'1 F F':Addr→Prop} {ρ1 ρ ρ':Env} {s₁ s s':Shared} {I D:Addr} {hd:Hd} {i:Nat} {oD:Obj}
structure LC (W:Wd) (GG H:List bY) (F'1:Addr→Prop) (ρ1:Env) (s₁:Shared) (I D:Addr) (F':Addr→Prop) (ρ':Env) (s':Shared):Prop where
 st:St W F' GG ρ' s'
 y:cG H F'1 GG ρ1 s₁ F' ρ' s'
 pv:iq W F' GG ρ' [I,D]
structure LX (W:Wd) (GG H:List bY) (F'1:Addr→Prop) (ρ1:Env) (s₁:Shared) (I D:Addr) (hd:Hd) (i:Nat) (oD:Obj) (F':Addr→Prop) (ρ':Env) (s':Shared):Prop where
 lc:LC W GG H F'1 ρ1 s₁ I D F' ρ' s'
 it:g4 s'.heap I i hd
 hD:s'.heap.get? D=some oD
theorem LC.pI (L:LC W GG H F'1 ρ1 s₁ I D F ρ s):¬ F I:=(L.pv I (.head _)).1
theorem LC.pD (L:LC W GG H F'1 ρ1 s₁ I D F ρ s):¬ F D:=(L.pv D (.tail _ (.head _))).1
theorem LC.touch (L:LC W GG H F'1 ρ1 s₁ I D F ρ s) (ha:a∈[I,D]) (hP:∀ a∈[I,D],s₁.heap.get? a=none) (hHl:∀ e∈H,∃ o,s₁.heap.get? e.pl.addr=some o) (hk:∀ b o,b≠a→s.heap.get? b=some o→s'.heap.get? b=some o) (hg:s'.gens=s.gens) (ho:s'.os=s.os):LC W GG H F'1 ρ1 s₁ I D F ρ s':=
 have hk':∀ b o,b∉[a]→s.heap.get? b=some o→s'.heap.get? b=some o:=fun b o hb=>hk b o fun e=>hb (e▸.head _)
 ⟨L.st.touch (P:=[a]) (fun b m=>L.pv b (aV.mp m▸ha)) hk',L.y.touch (P:=[a]) (fun b m=>hP b (aV.mp m▸ha)) hHl hk' hg ho,L.pv⟩
theorem LX.step (L:LX W GG H F'1 ρ1 s₁ I D hd i oD F ρ s) (st':St W F' GG ρ' s') (y':cG H F GG ρ s F' ρ' s'):LX W GG H F'1 ρ1 s₁ I D hd i oD F' ρ' s':=
 ⟨⟨st',L.lc.y.trans y',L.lc.pv.step y'.step (fun a ha=>(aU.mp ha).elim (fun e=>e▸L.it.live) fun ha=>aV.mp ha▸⟨_,L.hD⟩)⟩,L.it.keep fun o=>L.lc.pv.keep y'.step (.head _),L.lc.pv.keep y'.step (.tail _ (.head _)) L.hD⟩
end
theorem oa {xs:List α} {x:α} (h:xs[i]? = some x):xs.drop i=x::xs.drop (i+1):=by
 rw [List.drop_eq_getElem_cons (g8.mp h).1,(g8.mp h).2]
theorem lw {l:Nat} (h:i < l):l - (i+1) < l - i:=Nat.sub_lt_sub_left h (Nat.lt_succ_self i)
inductive P6 (W:Wd) (C:aC) (GG H:List bY) (F'1:Addr→Prop) (ρ1:Env) (s₁:Shared) (I D:Addr) (hd:Hd) (xs:List T) (ok:Env→Prop) (g:m8) (bs:SB) (de:SE) (Q:List T→Env→Prop) (k:Nat) (s':Shared):Prop where
 | mk (i:Nat) (F':Addr→Prop) (ρ':Env) (acc:List T) (vs:List Value) (m:Nat) (hk:k=xs.length - i) (hi:i≤xs.length) (L:LX W GG H F'1 ρ1 s₁ I D hd i (seqObj "list" vs.toArray m) F' ρ' s') (r:bR W F' s'.heap acc vs) (hl:acc.length≤i) (ho:ok ρ') (q:ce ok g bs de C (xs.drop i) ρ' acc Q)
theorem Oj {R:Result→Shared→Prop} {s₁ s'4:Shared} {ifs:List Expr} {cenv:PySem.Env} {GG H:List bY} {F'1 F'4:Addr→Prop} {ρ1:Env} {I D:Addr} {hd:Hd} {xs:List T} {ok:Env→Prop} {g:m8} {bs:SB} {de:SE} {Q:List T→Env→Prop}
  (hA:sQ n A) (S:dg W sc cenv GG) (hH:∀ x i,cu sc x=true→bm i x→∀ e,first GG i=some e→∀ e'∈H,e'.pl.addr≠e.pl.addr) (hHG:∀ e∈H,e∈GG) (hHl:∀ e∈H,∃ o,s₁.heap.get? e.pl.addr=some o)
  (hg:eQ tb sc tgt=some g) (hifs:nS W C n sc (fun env=>vp ifs env true) bs) (helt:cX W C n sc (eval elt) de)
  (hID:I≠D) (hP:∀ a∈[I,D],s₁.heap.get? a=none) (hIat:I∉hd.at) (hsz:xs.length≤SZ)
  (hsrc:∀ F' ρ' s',St W F' GG ρ' s'→cG H F'1 GG ρ1 s₁ F' ρ' s'→ok ρ'→rn W F' s'.heap xs hd)
  (fin:∀ F' ρ' s' acc vs m,St W F' GG ρ' s'→cG H F'1 GG ρ1 s₁ F' ρ' s'→iq W F' GG ρ' [I,D]→s'.heap.get? D=some (seqObj "list" vs.toArray m)→bR W F' s'.heap acc vs→acc.length≤SZ→Q acc ρ'→R (.ok .next) s')
  {ρ4:Env} (st:St W F'4 GG ρ4 s'4) (y:cG H F'1 GG ρ1 s₁ F'4 ρ4 s'4) (pv:iq W F'4 GG ρ4 [I,D]) (it:g4 s'4.heap I 0 hd) (hD:s'4.heap.get? D=some (seqObj "list" ([]:List Value).toArray 0)) (h0:ok ρ4) (q:ce ok g bs de C xs ρ4 [] Q) :
  codeAny (model W.prog W.w) A (.compLoop (.ListComp elt [⟨tgt,iter,ifs,0⟩] scope pos) 0 (.ref I) (.ref D) cenv) R s'4:=by
 refine Lc (P6 W C GG H F'1 ρ1 s₁ I D hd xs ok g bs de Q) (fun k s' hI=>?_) xs.length ⟨0,F'4,ρ4,[],[],0,rfl,cr _,⟨⟨st,y,pv⟩,it,hD⟩,.nil,Nat.le_refl _,h0,q⟩
 obtain ⟨i,F',ρ',acc,vs,m,hki,hi,L,racc,hl,ho,q⟩:=hI
 refine ax (kB hA.handled L.lc.pI L.it (hsrc F' ρ' s' L.lc.st L.lc.y ho) hIat) (fun r s₂ z=>?_) am
 have L'2:=L.lc.touch (.head _) hP hHl z.keep z.gens z.os
 have hD2:=z.keep D _ (fun e=>hID e.symm) L.hD
 have racc2:=racc.mono (fun _ f=>f) fun a o f=>z.keep a o (fun e=>L.lc.pI (e▸f))
 induction hx:xs[i]? with
 | none=>
  rw [z.fin hx]
  rw [List.drop_eq_nil_of_le (List.getElem?_eq_none_iff.mp hx),lz] at q
  exact fin F' ρ' s₂ acc vs m L'2.st L'2.y L'2.pv hD2 racc2 (aI hl (aI hi hsz)) q
 | some x=>
  obtain ⟨v,rv,it2⟩:=z.item hx
  have hlt:i < xs.length:=(g8.mp hx).1
  have L'2:LX W GG H F'1 ρ1 s₁ I D hd (i+1) (seqObj "list" vs.toArray m) F' ρ' s₂:=⟨L'2,it2,hD2⟩
  rw [oa hx,j7] at q
  refine rQ it2 (ax (u0 hA.handled S hH hHG hg L'2.lc.st rv q) (fun _ s'3 h'3=>?_) am)
  obtain ⟨ρ3,q,st3,y'3⟩:=h'3
  have L'3:=L'2.step st3 y'3
  refine ax (hifs A cenv F' GG ρ3 s'3 _ _ hA S st3 q) (fun b s'4 h'4=>?_) am
  obtain ⟨F'4,ρ4,q,st4,y'4⟩:=h'4
  have L'4:=L'3.step st4 (y'4.h hHG)
  have racc4:=y'4.step.vrs st3 (y'3.step.vrs L'2.lc.st racc2)
  have hki':=hki▸lw hlt
  induction b with
  | false=>exact ⟨_,hki',i+1,F'4,ρ4,acc,vs,m,rfl,hlt,L'4,racc4,Nat.le_succ_of_le hl,q.1,q.2⟩
  | true=>
   rw [au rfl]
   refine (ax (helt A cenv F'4 GG ρ4 s'4 _ _ hA S st4 q) (fun u s'5 h'5=>?_) am)
   obtain ⟨t,F'5,ρ5,q,st5,y'5,rt⟩:=h'5
   have L'5:=L'4.step st5 (y'5.h hHG)
   have racc5:=y'5.step.vrs st4 racc4
   refine wpAny_list_append_plain (CK L'5.hD) (fun h' hl' hs'=>?_) (by have:=racc5.length;rw [cP,← this,sizeLine_eq];have hz:xs.length≤1048576:=hsz;clear hki hki';lia)
   have hk':∀ b o,b≠D→s'5.heap.get? b=some o→h'.get? b=some o:=fun b o hb e=>hs'.extBut b o hb e
   obtain ⟨m',hl'⟩:=hl'
   refine ⟨_,hki',i+1,F'5,ρ5,acc++[t],vs++[u],m',rfl,hlt,⟨L'5.lc.touch (s':={ s'5 with heap:=h' }) (.tail _ (.head _)) hP hHl hk' rfl rfl,L'5.it.keep fun o=>hk' I o hID,by simpa using hl'⟩,?_,by rw [bS];exact gC hl,q.1,q.2⟩
   exact (bR.append racc5 (.cons rt .nil)).mono (fun _ f=>f) fun a o f=>hk' a o (fun m=>L'5.lc.pD (m▸f))
end
end
section
section
variable {W:Wd} {F F':Addr→Prop} {h h':Heap}
theorem ut {t:T} {xs:List T} (x:dZ W F h t v) (e:items t=some xs):xs.length≤SZ:=by
 cases t with
 | list ys=>obtain rfl:=az e;obtain ⟨_,_,_,_,_,l,_⟩:=x.list_inv;exact l
 | tup ys=>obtain rfl:=az e;obtain ⟨_,_,_,_,_,l,_⟩:=x.tup_inv;exact l
 | dict kvs=>obtain rfl:=az e;obtain ⟨_,_,_,_,_,l,_⟩:=x.dict_inv;rw [ba];exact l
 | dvals kvs=>obtain rfl:=az e;obtain ⟨_,_,_,_,_,_,_,l,_⟩:=x.dvals_inv;rw [ba];exact l
 | rng n=>obtain rfl:=az e;obtain ⟨_,_,_,_,_,_,l⟩:=x.rng_inv;rw [ba,eh];exact l
 | _=>exact nn e
theorem iO {t:T} {xs:List T} (e:fW o ρ t=some xs):items t=some xs:=by
 unfold fW at e
 induction h:iV o ρ with
 | none=>rw [h] at e;exact e
 | some x=>rw [h] at e;rw [et e];rfl
end
noncomputable def N5 (W:Wd) (o:ji) (G:List bY) (F'1:Addr→Prop) (ρ0:Env) (s₁:Shared) (xs:List T) (hd:Hd):Prop:=
 ∀ G'1 F' ρ' s',St W F' (G'1++G) ρ' s'→(∀ a,F'1 a→F' a)→(∀ a o,F'1 a→s₁.heap.get? a=some o→s'.heap.get? a=some o)→(∀ e∈G,∀ o,s₁.heap.get? e.pl.addr=some o→s'.heap.get? e.pl.addr=some o)→
  mx o ρ0 G'1.length ρ'→rn W F' s'.heap xs hd
structure tZ (W:Wd) (o:ji) (F:Addr→Prop) (G:List bY) (ρ:Env) (s:Shared) (xs:List T) (ρ0:Env) (F'1:Addr→Prop) (s₁ s₂:Shared) (I:Addr) (hd:Hd):Prop where
 st:St W F'1 G ρ0 s₁
 step:b2 F G ρ s F'1 ρ0 s₁
 grow:cf F'1 s₁ F'1 s₂
 new:s₁.heap.get? I=none
 it:g4 s₂.heap I 0 hd
 len:xs.length≤SZ
 nin:I∉hd.at
 ok:N5 W o G F'1 ρ0 s₁ xs hd
 fz:iV o ρ0=none→∀ F' (s':Shared),(∀ a,F'1 a→F' a)→(∀ a o,F'1 a→s₁.heap.get? a=some o→s'.heap.get? a=some o)→rn W F' s'.heap xs hd
section
variable {W:Wd} {C:aC} {n:Nat} {sc:PySem.Scope} {F:Addr→Prop} {G:List bY} {ρ:Env} {s:Shared} {A:Around} {E:Value→Shared→Prop} {env:PySem.Env}
theorem qm {t:T} {xs:List T} {F'1:Addr→Prop} {ρ0:Env} {s₁ s₂:Shared} {it:Value} (st:St W F'1 G ρ0 s₁) (y:b2 F G ρ s F'1 ρ0 s₁) (r:VR W F'1 s₁.heap t v) (e:items t=some xs) (z:Jg W F'1 s₁ t v xs it s₂) :
  ∃ I hd,it=.ref I∧tZ W o F G ρ s xs ρ0 F'1 s₁ s₂ I hd:=by
 obtain ⟨I,hd,rfl,g,hn,hi,sv,hl,hf,_⟩:=z
 have nin:I∉hd.at:=fun m=>by
  obtain ⟨o,ho⟩:=hl I m
  exact nn (hn.symm.trans ho)
 suffices key:∀ F' (s':Shared),(∀ a,F'1 a→F' a)→(∀ a o,F'1 a→s₁.heap.get? a=some o→s'.heap.get? a=some o)→rn W F' s'.heap xs hd by
  exact ⟨I,hd,rfl,st,y,g,hn,hi,ut r.q e,nin,fun G'1 F' ρ' s' st' mono keep kp _=>key F' s' mono keep,fun _=>key⟩
 intro F' s' mono keep
 refine sv.keep mono fun a o c ho=>?_
 have fa:F'1 a:=c.elim id fun m=>hf r a m
 obtain ⟨o',ho'⟩:=st.live a fa
 have:=g.keep a o' ho'
 rw [ho] at this
 obtain rfl:=az this
 exact keep a o fa ho'
theorem xr (hA:sQ n A) (S:dg W sc env G) (st:St W F G ρ s) (hi:cX W C n sc (eval iter) (bA tb sc iter)) {P:List T→Env→Prop} (hK:∀ t ρ0,K t ρ0→fX (fW (bf tb sc iter (bA tb sc iter)) ρ0 t) fun xs=>P xs ρ0)
  (q:(bf tb sc iter (bA tb sc iter)).run C ρ K) :
  wpAny (model W.prog W.w) A (eval iter env) (fun x s₁=>wpAny (model W.prog W.w) A (pyIter x) (fun it s₂=>∃ xs ρ0 F'1 I hd,P xs ρ0∧it=.ref I∧tZ W (bf tb sc iter (bA tb sc iter)) F G ρ s xs ρ0 F'1 s₁ s₂ I hd) E s₁) E s:=by
 rcases nL (sc:=sc) (value:=iter) with ⟨x,p,i,rfl,ho,hid,e⟩ | e
 ·rw [e] at q hK ⊢
  obtain ⟨en,hf,ld⟩:=S.loads ho (dj hid)
  have lk:=st.look hf
  have q:sj (ρ.get i) (fun t=>K t ρ):=q
  induction hs:ρ.get i with
  | unb=>rw [hs] at q;exact q.elim
  | val t=>
   rw [hs] at q lk
   obtain ⟨v,hv,r⟩:=lk
   obtain ⟨xs,hx,qf⟩:=aW (hK t ρ q)
   have hit:=iO hx
   refine ld hv (ax (uI r.q hit) (fun it s₂ z=>?_) am)
   obtain ⟨I,hd,rfl,zz⟩:=qm (o:=.v i) st b2.refl r hit z
   exact ⟨xs,ρ,F,I,hd,qf,rfl,zz⟩
  | own fx t=>
   rw [hs] at q lk
   obtain ⟨v,hv,r⟩:=lk
   obtain ⟨xs,hx,qf⟩:=aW (hK t ρ q)
   have hit:=iO hx
   have hown:iV (.v i) ρ=some i:=by unfold iV;dsimp only;rw [hs]
   unfold fW at hx
   rw [hown] at hx
   obtain rfl:=et hx
   refine ld hv (ax (uI r.q hit) (fun it s₂ z=>?_) am)
   obtain ⟨I,hd,rfl,g,hn,hi,sv,hl,_,hL⟩:=z
   have nin:I∉hd.at:=fun m=>by
    obtain ⟨o,ho⟩:=hl I m
    exact nn (hn.symm.trans ho)
   refine ⟨xs,ρ,F,I,hd,qf,rfl,st,.refl,g,hn,hi,ut r.q hit,nin,?_,fun z=>nn (z.symm.trans hown)⟩
   obtain ⟨l,rfl,rfl⟩:=hL xs rfl
   intro G'1 F' ρ' s' st' mono keep kp ok
   have st'':=st'.pop
   have hs':Env.get (ρ'.drop G'1.length) i=.own fx (.list xs):=by
    unfold mx at ok
    rw [hown] at ok
    exact (show Env.get (ρ'.drop G'1.length) i=ρ.get i from ok).trans hs
   have lk':=st''.look hf
   rw [hs'] at lk'
   obtain ⟨v',hv',r'⟩:=lk'
   have:Value.ref l=v':=az ((hv.keep fun o=>kp en (ck hf) o).inj hv')
   subst this
   have r':=r'.l
   generalize hw:Value.ref l=w at r'
   generalize en.own=as at r'
   obtain ⟨vs,a,n,g',l',r2⟩:=r'
   obtain rfl:=Value.ref.inj hw
   exact ⟨_,_,g',r2⟩
 ·rw [e] at q hK ⊢
  refine ax (hi A env F G ρ s _ E hA S st q) (fun v s₁ h'1=>?_) am
  obtain ⟨t,F'1,ρ1,q,st1,y'1,r⟩:=h'1
  obtain ⟨xs,hx,q⟩:=aW (hK _ _ q)
  have hit:=iO hx
  refine ax (uI r.q hit) (fun it s₂ z=>?_) am
  obtain ⟨I,hd,rfl,zz⟩:=qm (o:=.e (bA tb sc iter)) st1 y'1 r hit z
  exact ⟨xs,ρ1,F'1,I,hd,q,rfl,zz⟩
theorem sk:mx o ρ is.length (c9 is ρ):=by
 unfold mx
 split
 ·unfold c9
  rw [List.drop_left' (by rw [ba])]
 ·trivial
theorem zo:(∀ x,foldedSetIterable iter env x=pure x)∨bf tb sc iter (bA tb sc iter)=.e b5:=by
 cases iter<;>first | exact .inl fun _=>rfl | exact .inr rfl
structure cU (W:Wd) (F:Addr→Prop) (G:List bY) (ρ:Env) (s:Shared) (K:T→Env→Prop) (D Cc:Addr) (t:T) (F':Addr→Prop) (ρ':Env) (s':Shared):Prop where
 q:K t ρ'
 st:St W F' G ρ' s'
 step:b2 F G ρ s F' ρ' s'
 r:gu W F' s'.heap [D] t (.ref D)
 nD:s.heap.get? D=none
 fD:¬ F' D
 pv:iq W F' G ρ' [Cc]
 nC:s.heap.get? Cc=none
 ne:D≠Cc
theorem cU.touch {D Cc:Addr} {t:T} {ρ':Env} {h':Heap} (x:cU W F G ρ s K D Cc t F' ρ' s') (hs:Heap.SameBut Cc s'.heap h') (st:St W F G ρ s):cU W F G ρ s K D Cc t F' ρ' { s' with heap:=h' }:=by
 have hk:∀ b o,b∉[Cc]→s'.heap.get? b=some o→h'.get? b=some o:=fun b o hb e=>hs.extBut b o (fun z=>hb (by simp [z])) e
 have y:cG G F G ρ s F' ρ' { s' with heap:=h' }:=(x.step.h (H:=G) (fun _ h=>h)).touch (s':={ s' with heap:=h' }) (P:=[Cc]) (fun a ha=>by rw [aV.mp ha];exact x.nC) (fun e he=>st.env.liveP he) hk rfl rfl
 exact ⟨x.q,x.st.touch x.pv hk,y.e,
  x.r.mono (fun _ f=>f) fun a o c=>hk a o (fun m=>by
   rw [aV.mp m] at c
   exact c.elim (x.pv Cc (by simp)).1 fun q=>x.ne (aV.mp q).symm),x.nD,x.fD,x.pv,x.nC,x.ne⟩
theorem cU.opost {D Cc:Addr} {t:T} {ρ':Env} (x:cU W F G ρ s K D Cc t F' ρ' s'):xu W F G ρ s K (.ref D) s':=
 ⟨t,F',ρ',[D],x.q,x.st,x.step,x.r,by simp,fun a ha=>by rw [aV.mp ha];exact ⟨x.nD,x.fD⟩⟩
structure Fd (W:Wd) (scope:PySem.Scope) (o:ji) (accO:Obj) (is:List Nm) (cenv:PySem.Env) (Cc:Addr) (G:List bY) (xs:List T) (F'1:Addr→Prop) (ρ0:Env) (s₁ s'4:Shared) (I D:Addr) (hd:Hd):Prop where
 sees:dg W scope cenv (bP Cc (aX scope) is++G)
 hH:∀ x i,cu scope x=true→bm i x→∀ e,first (bP Cc (aX scope) is++G) i=some e→∀ e'∈G,e'.pl.addr≠e.pl.addr
 hHl:∀ e∈G,∃ o,s₁.heap.get? e.pl.addr=some o
 hID:I≠D
 hP:∀ a∈[I,D],s₁.heap.get? a=none
 nin:I∉hd.at
 len:xs.length≤SZ
 src:∀ F' ρ' s',St W F' (bP Cc (aX scope) is++G) ρ' s'→cG G F'1 (bP Cc (aX scope) is++G) (c9 is ρ0) s₁ F' ρ' s'→mx o ρ0 is.length ρ'→rn W F' s'.heap xs hd
 st:St W F'1 (bP Cc (aX scope) is++G) (c9 is ρ0) s'4
 y:cG G F'1 (bP Cc (aX scope) is++G) (c9 is ρ0) s₁ F'1 (c9 is ρ0) s'4
 pv:iq W F'1 (bP Cc (aX scope) is++G) (c9 is ρ0) [I,D]
 it:g4 s'4.heap I 0 hd
 acc:s'4.heap.get? D=some accO
structure uB (s₂:Shared) (accO:Obj) (D Cc:Addr) (s'4:Shared):Prop where
 hD:s₂.heap.get? D=none
 hC:s₂.heap.get? Cc=none
 ne:D≠Cc
 old:∀ b o,s₂.heap.get? b=some o→s'4.heap.get? b=some o
 acc:s'4.heap.get? D=some accO
 ns:s'4.heap.Ns Cc fun _=>none
 gens:s'4.gens=s₂.gens
 os:s'4.os=s₂.os
section
variable {o:ji} {accO:Obj} {scope:PySem.Scope} {is:List Nm} {xs:List T} {ρ0:Env} {F'1:Addr→Prop} {s₁ s₂ s'4:Shared} {I D Cc:Addr} {hd:Hd}
theorem tZ.none1 (X:tZ W o F G ρ s xs ρ0 F'1 s₁ s₂ I hd) (e:s₂.heap.get? a=none):s₁.heap.get? a=none:=cI X.grow.keep e
theorem St.priv (st:St W F G ρ s) (h:s.heap.get? a=none):¬ F a∧a∉bk G ρ∧(∀ e∈G,e.pl.addr≠a)∧W.h0.get? a=none:=by
 refine ⟨fun f=>?_,fun m=>?_,fun e he z=>?_,?_⟩
 ·obtain ⟨o,e⟩:=st.live _ f;exact nn (h.symm.trans e)
 ·obtain ⟨o,e⟩:=st.env.live m;exact nn (h.symm.trans e)
 ·obtain ⟨o,e⟩:=st.env.liveP he;exact nn (h.symm.trans (z▸e))
 ·induction e:W.h0.get? a with
  | none=>rfl
  | some o=>exact nn (h.symm.trans (st.world a o e))
theorem FL (S:dg W sc env G) (KP:fu sc scope) (hv:dO tb (aX scope)=some is) (X:tZ W o F G ρ s xs ρ0 F'1 s₁ s₂ I hd) (f:uB s₂ accO D Cc s'4) :
  Fd W scope o accO is (compEnvC scope (clos env scope.names []) Cc env) Cc G xs F'1 ρ0 s₁ s'4 I D hd:=by
 have l:=mO hv
 have ndC:(aX scope).Nodup:=KP.nd.sublist (fR.map _)
 have hC1:=X.none1 f.hC
 have old1:∀ b o,s₁.heap.get? b=some o→s'4.heap.get? b=some o:=fun b o e=>f.old b o (X.grow.keep b o e)
 have O:=nG (G:=G) (ρ:=ρ0) (C:=Cc) l
 have hI:∀ {a},s₂.heap.get? a=none→I≠a:=fun h z=>by obtain ⟨o,e⟩:=X.it.live;exact nn (h.symm.trans (z▸e))
 have hP:∀ a∈[I,D],s₁.heap.get? a=none:=fun a ha=>(aU.mp ha).elim (fun e=>e▸X.new) fun ha=>aV.mp ha▸X.none1 f.hD
 have nCF:¬ F'1 Cc:=(X.st.priv hC1).1
 refine ⟨ur S KP hv,?_,fun e he=>X.st.env.liveP he,hI f.hD,hP,X.nin,X.len,?_,X.st.push l ndC hC1 f.ns old1,
  ⟨⟨f.gens.trans X.grow.gens,f.os.trans X.grow.os,fun _ f=>f,fun b o e _ _=>old1 b o e,fun _=>.inl,fun _=>.inl,fun b e=>cI old1 e,rfl⟩,fun e he o ho=>old1 _ o ho,fun _ h=>h⟩,fun a ha=>?_,X.it.keep fun o=>f.old I o,f.acc⟩
 ·intro x i hx hi e he e' he' z
  have hl:scope.names.lookup x=some .local:=(t3 hx).resolve_right fun h=>absurd rfl (KP.cell _ (eB h))
  obtain ⟨e'2,h2,h3⟩:=((ur S KP hv (C:=Cc)).loc x i hl hi).2
  obtain rfl:=az (he.symm.trans h2)
  rw [h3] at z
  exact (X.st.priv hC1).2.2.1 e' he' z
 ·intro F' ρ' s' st' y' ok
  refine X.ok _ F' ρ' s' st' y'.step.mono (fun a o f e=>y'.step.keep a o e (fun m=>X.st.ownF a (O▸m) f) fun e' he' z=>?_) (fun e he o ho=>y'.pl e he o ho) (by rw [fg l];exact ok)
  rcases cD.mp he' with m | m
  ·exact nCF ((iH m).symm.trans z▸f)
  ·exact X.st.plF e' m (z▸f)
 ·have p:=X.st.priv (hP a ha)
  have hne:a≠Cc:=(aU.mp ha).elim (fun e=>e▸hI f.hC) fun ha=>aV.mp ha▸f.ne
  exact ⟨p.1,O.symm▸p.2.1,fun e he z=>(cD.mp he).elim (fun m=>hne (z.symm.trans (iH m))) fun m=>p.2.2.1 e m z,p.2.2.2⟩
theorem CG {ρ':Env} {t:T} (KP:fu sc scope) (hv:dO tb (aX scope)=some is) (X:tZ W o F G ρ s xs ρ0 F'1 s₁ s₂ I hd) (f:uB s₂ accO D Cc s'4)
  (st':St W F' (bP Cc (aX scope) is++G) ρ' s') (y':cG G F'1 (bP Cc (aX scope) is++G) (c9 is ρ0) s₁ F' ρ' s') (pv':iq W F' (bP Cc (aX scope) is++G) ρ' [I,D]) (r:gu W F' s'.heap [D] t (.ref D)) (hK:K t (ρ'.drop is.length)) :
  cU W F G ρ s K D Cc t F' (ρ'.drop is.length) s'∧∃ m,s'.heap.Ns Cc m:=by
 have l:=mO hv
 have le:=fg (C:=Cc) l
 have hC1:=X.none1 f.hC
 have stp:=st'.pop
 have sub:=xx st'
 rw [le] at stp sub
 obtain ⟨e0,x0,he0,hp0⟩:∃ e0 x0,e0∈bP Cc (aX scope) is∧e0.pl=.loc Cc x0:=by
  induction hcn:aX scope with
  | nil=>exact absurd hcn KP.ne
  | cons x xs'=>
   rw [hcn] at l
   induction is with
   | nil=>exact nomatch l
   | cons i is'=>exact ⟨_,x,.head _,rfl⟩
 have m0:e0∈bP Cc (aX scope) is++G:=eW _ he0
 have a0:=iH he0
 obtain ⟨v0,h0⟩:=st'.env.holds m0
 rw [hp0] at h0
 obtain ⟨m,hm,_⟩:=h0
 have pC:iq W F' G (ρ'.drop is.length) [Cc]:=fun a ha=>by
  rw [aV.mp ha,← a0]
  exact ⟨st'.plF e0 m0,fun m=>st'.ownP _ (sub _ m) e0 m0 rfl,fun e he z=>(X.st.priv hC1).2.2.1 e he (z.trans a0),st'.newP e0 m0⟩
 exact ⟨⟨hK,stp,X.step.trans (cG.pop X.st l hC1 (s₁:=s₁) am rfl rfl st' y'),r,X.step.step.lives _ (X.none1 f.hD),(pv' D (.tail _ (.head _))).1,pC,X.step.step.lives _ hC1,f.ne⟩,m,hm⟩
end
theorem rS {e:Expr} {ifs:List Expr} {newAcc:Sem Value} {accO:Obj} {P:List T→Env→Prop}
  (hA:sQ n A) (S:dg W sc env G) (st:St W F G ρ s) (KP:fu sc scope) (hv:dO tb (aX scope)=some is) (hcl:clausesOf e=[⟨tgt,iter,ifs,0⟩]) (hns:∀ x,foldedSetIterable iter env x=pure x)
  (hi:cX W C n sc (eval iter) (bA tb sc iter)) (hfreed:accO.isFreed=false)
  (hacc:∀ {E:Value→Shared→Prop} {s:Shared} {Q:Value→Shared→Prop},Q (.ref s.heap.objs.size) { s with heap:=s.heap.push accO }→wpAny (model W.prog W.w) A newAcc Q E s)
  (q:(bf tb sc iter (bA tb sc iter)).run C ρ fun t ρ0=>fX (fW (bf tb sc iter (bA tb sc iter)) ρ0 t) fun xs=>P xs ρ0)
  (loop:∀ xs F'1 ρ0 s₁ s'4 I D Cc hd R,P xs ρ0→(∀ b o,W.h0.get? b=some o→s₁.heap.get? b=some o)→Fd W scope (bf tb sc iter (bA tb sc iter)) accO is (compEnvC scope (clos env scope.names []) Cc env) Cc G xs F'1 ρ0 s₁ s'4 I D hd→
   (∀ F' ρ' s' t,St W F' (bP Cc (aX scope) is++G) ρ' s'→cG G F'1 (bP Cc (aX scope) is++G) (c9 is ρ0) s₁ F' ρ' s'→iq W F' (bP Cc (aX scope) is++G) ρ' [I,D]→
    gu W F' s'.heap [D] t (.ref D)→K t (ρ'.drop is.length)→R (.ok .next) s')→
   codeAny (model W.prog W.w) A (.compStart e 0 (.ref I) (.ref D) (compEnvC scope (clos env scope.names []) Cc env)) R s'4)
  (hnone:use=none→∀ D Cc t F' ρ' s',cU W F G ρ s K D Cc t F' ρ' s'→Q (.ref D) s')
  (hsome:∀ u,use=some u→∀ D Cc t F' ρ' s' m,cU W F G ρ s K D Cc t F' ρ' s'→s'.heap.Ns Cc m→wpAny (model W.prog W.w) A (u (.ref D)) (fun _ s''=>∃ m,s''.heap.Ns Cc m∧∀ h',Heap.SameBut Cc s''.heap h'→Q .none { s'' with heap:=h' }) E s') :
  wpAny (model W.prog W.w) A (comprehension e scope env pos newAcc false (eval iter env) use) Q E s:=by
 refine wpAny_comprehension_free hcl hns (FN S KP) KP.kind (fun x hx hl=>by
  obtain ⟨a,b⟩:=x
  obtain rfl:=hl
  exact kU KP.nd hx) (ax (xr hA S st hi (fun _ _ q=>q) q) (fun x s₁ h'1=>ax h'1 (fun it s₂ h'2=>?_) am) am)
 obtain ⟨xs,ρ0,F'1,I,hd,q,rfl,X⟩:=h'2
 refine hacc ?_
 refine wpAny_newFunctionEnv KP.cell (fun y hy=>nomatch hy) (fun h'1 hns1 hsb1=>?_) KP.kind
 have hC2:s₂.heap.get? (s₂.heap.push accO).objs.size=none:=by
  induction e:s₂.heap.get? (s₂.heap.push accO).objs.size with
  | none=>rfl
  | some o=>exact absurd (ei e) (by rw [Heap.size_push];exact Nat.not_lt.mpr (Nat.le_succ _))
 have hDC:s₂.heap.objs.size≠(s₂.heap.push accO).objs.size:=by rw [Heap.size_push];exact Nat.ne_of_lt (Nat.lt_succ_self _)
 have fi:uB s₂ accO s₂.heap.objs.size (s₂.heap.push accO).objs.size { s₂ with heap:=h'1,toks:=s₂.toks+([]:List (Str×Value)).length }:=
  ⟨aS _,hC2,hDC,fun b o e=>hsb1.extBut b o (fun z=>nn (hC2.symm.trans (z▸e))) (bU _ (bU _ e)),hsb1.extBut _ _ hDC (bU _ (dH _ hfreed)),hns1,rfl,rfl⟩
 refine loop xs F'1 ρ0 s₁ _ I s₂.heap.objs.size (s₂.heap.push accO).objs.size hd _ q X.st.world (FL S KP hv X fi) fun F' ρ' s' t st' y' pv' r hK=>?_
 obtain ⟨fin,m,hm⟩:=CG KP hv X fi st' y' pv' r hK
 induction use with
 | none=>exact ⟨_,hm,fun h' hs'=>hnone rfl _ _ _ _ _ _ (fin.touch hs' st)⟩
 | some u=>exact hsome u rfl _ _ _ _ _ _ _ fin hm
end
end
section
theorem Kt {prog:Program} {w:World} {R:Result→Shared→Prop} {kx vx target:Expr} {ifs:List Expr} {it:Value} {D:Addr} (I:Nat→Shared→Prop)
  (turn:∀ n s,I n s→wpAny (model prog w) A (pyNext it) (fun r s₁=>match r with
   | none=>R (.ok .next) s₁
   | some v=>wpAny (model prog w) A (letOwnedTupleGo target it v) (fun _ s₁=>wpAny (model prog w) A (assign target env v) (fun _ s₂=>
     wpAny (model prog w) A (vp ifs env true) (fun ok s'3=>
      if ok=true then wpAny (model prog w) A (eval kx env) (fun kv s'4=>wpAny (model prog w) A (eval vx env) (fun vv s'5=>
       wpAny (model prog w) A (dictSet D kv vv) (fun _ s'6=>∃ m,m < n∧I m s'6) (notedBy (model prog w) A env fun e s'=>R (.error e) s') s'5) (notedBy (model prog w) A env fun e s'=>R (.error e) s') s'4) (notedBy (model prog w) A env fun e s'=>R (.error e) s') s'3
      else ∃ m,m < n∧I m s'3) (notedBy (model prog w) A env fun e s'=>R (.error e) s') s₂) (notedBy (model prog w) A env fun e s'=>R (.error e) s') s₁) (notedBy (model prog w) A env fun e s'=>R (.error e) s') s₁) (notedBy (model prog w) A env fun e s'=>R (.error e) s') s)
  (n:Nat) (h:I n s):codeAny (model prog w) A (.compLoop (.DictComp kx vx [⟨target,iter,ifs,0⟩] scope pos) 0 it (.ref D) env) R s:=by
 refine codeAny_loop rfl I (fun n s hI=>?_) n h
 show wpAny _ A ((compTurn (.DictComp kx vx [⟨target,iter,ifs,0⟩] scope pos) 0 it (.ref D) env).onRaise (fun x=>do noteFrame x env;theTreesLotGoes x)) _ _ s
 refine wpAny_noted ?_
 rw [compTurn_dict]
 refine ac (dJ (ac (ax (turn n s hI) (fun r s₁ h'1=>?_) fun _ _ h'=>h')))
 induction r with
 | none=>exact al h'1
 | some v=>
  refine ac (ax h'1 (fun _ s₁ h'1=>?_) fun _ _ h'=>h')
  refine ac (ax h'1 (fun _ s₂ h'2=>ac (ax h'2 (fun ok s'3 h'3=>?_) fun _ _ h'=>h')) fun _ _ h'=>h')
  induction ok with
  | false=>exact al ⟨rfl,h'3⟩
  | true=>
   exact ac (ac (ax h'3 (fun kv s'4 h'4=>ac (b4 (ax h'4 (fun vv s'5 h'5=>ac (dJ (b4 (ax h'5 (fun _ s'6 h'6=>al ⟨rfl,h'6⟩) fun _ _ h'=>h')))) fun _ _ h'=>h'))) fun _ _ h'=>h'))
section
variable {W:Wd} {C:aC} {n:Nat} {sc:PySem.Scope}
inductive Pg (W:Wd) (C:aC) (GG H:List bY) (F'1:Addr→Prop) (ρ1:Env) (s₁:Shared) (I D:Addr) (hd:Hd) (xs:List T) (ok:Env→Prop) (g:m8) (bs:SB) (dk dv:SE) (Q:List (bL×T)→Env→Prop) (k:Nat) (s':Shared):Prop where
 | mk (i:Nat) (F':Addr→Prop) (ρ':Env) (acc:List (bL×T)) (es:List DictEntry) (ep:Nat) (hk:k=xs.length - i) (hi:i≤xs.length) (L:LX W GG H F'1 ρ1 s₁ I D hd i (aL es ep) F' ρ' s') (r:cL W F' s'.heap acc es) (nd:(acc.map (·.1)).Nodup) (hl:acc.length≤SZ) (ho:ok ρ') (q:cS ok g bs dk dv C (xs.drop i) ρ' acc Q)
theorem eR.vrd {ρ':Env} {G':List bY} {es:List DictEntry} (y:eR F G ρ s F' G' ρ' s') (x:St W F G ρ s) (r:cL W F s.heap kvs es):cL W F' s'.heap kvs es:=r.mono y.mono fun a o f e=>y.keep a o e (fun m=>x.ownF _ m f) fun e he q=>x.plF e he (q▸f)
theorem Nq {R:Result→Shared→Prop} {s₁ s'4:Shared} {kx vx:Expr} {ifs:List Expr} {cenv:PySem.Env} {GG H:List bY} {F'1 F'4:Addr→Prop} {ρ1:Env} {I D:Addr} {hd:Hd} {xs:List T} {ok:Env→Prop} {g:m8} {bs:SB} {dk dv:SE} {Q:List (bL×T)→Env→Prop}
  (hA:sQ n A) (S:dg W sc cenv GG) (hH:∀ x i,cu sc x=true→bm i x→∀ e,first GG i=some e→∀ e'∈H,e'.pl.addr≠e.pl.addr) (hHG:∀ e∈H,e∈GG) (hHl:∀ e∈H,∃ o,s₁.heap.get? e.pl.addr=some o)
  (hg:eQ tb sc tgt=some g) (hifs:nS W C n sc (fun env=>vp ifs env true) bs) (hk':cX W C n sc (eval kx) dk) (hv':cX W C n sc (eval vx) dv)
  (hID:I≠D) (hP:∀ a∈[I,D],s₁.heap.get? a=none) (hIat:I∉hd.at)
  (hsrc:∀ F' ρ' s',St W F' GG ρ' s'→cG H F'1 GG ρ1 s₁ F' ρ' s'→ok ρ'→rn W F' s'.heap xs hd)
  (fin:∀ F' ρ' s' acc es ep,St W F' GG ρ' s'→cG H F'1 GG ρ1 s₁ F' ρ' s'→iq W F' GG ρ' [I,D]→s'.heap.get? D=some (aL es ep)→cL W F' s'.heap acc es→(acc.map (·.1)).Nodup→acc.length≤SZ→Q acc ρ'→R (.ok .next) s')
  {ρ4:Env} (st:St W F'4 GG ρ4 s'4) (y:cG H F'1 GG ρ1 s₁ F'4 ρ4 s'4) (pv:iq W F'4 GG ρ4 [I,D]) (it:g4 s'4.heap I 0 hd) (hD:s'4.heap.get? D=some (aL [] 0)) (h0:ok ρ4) (q:cS ok g bs dk dv C xs ρ4 [] Q) :
  codeAny (model W.prog W.w) A (.compLoop (.DictComp kx vx [⟨tgt,iter,ifs,0⟩] scope pos) 0 (.ref I) (.ref D) cenv) R s'4:=by
 refine Kt (Pg W C GG H F'1 ρ1 s₁ I D hd xs ok g bs dk dv Q) (fun k s' hI=>?_) xs.length ⟨0,F'4,ρ4,[],[],0,rfl,cr _,⟨⟨st,y,pv⟩,it,hD⟩,.nil,cJ,cr _,h0,q⟩
 obtain ⟨i,F',ρ',acc,es,ep,hki,hi,L,racc,nd,hl,ho,q⟩:=hI
 refine ax (kB hA.handled L.lc.pI L.it (hsrc F' ρ' s' L.lc.st L.lc.y ho) hIat) (fun r s₂ z=>?_) am
 have L'2:=L.lc.touch (.head _) hP hHl z.keep z.gens z.os
 have hD2:=z.keep D _ (fun e=>hID e.symm) L.hD
 have racc2:=racc.mono (fun _ f=>f) fun a o f=>z.keep a o (fun e=>L.lc.pI (e▸f))
 induction hx:xs[i]? with
 | none=>
  rw [z.fin hx]
  rw [List.drop_eq_nil_of_le (List.getElem?_eq_none_iff.mp hx),jv] at q
  exact fin F' ρ' s₂ acc es ep L'2.st L'2.y L'2.pv hD2 racc2 nd hl q
 | some x=>
  obtain ⟨v,rv,it2⟩:=z.item hx
  have hlt:i < xs.length:=(g8.mp hx).1
  have L'2:LX W GG H F'1 ρ1 s₁ I D hd (i+1) (aL es ep) F' ρ' s₂:=⟨L'2,it2,hD2⟩
  rw [oa hx,mP] at q
  refine rQ it2 (ax (u0 hA.handled S hH hHG hg L'2.lc.st rv q) (fun _ s'3 h'3=>?_) am)
  obtain ⟨ρ3,q,st3,y'3⟩:=h'3
  have L'3:=L'2.step st3 y'3
  refine ax (hifs A cenv F' GG ρ3 s'3 _ _ hA S st3 q) (fun b s'4 h'4=>?_) am
  obtain ⟨F'4,ρ4,q,st4,y'4⟩:=h'4
  have L'4:=L'3.step st4 (y'4.h hHG)
  have racc4:=y'4.step.vrd st3 (y'3.step.vrd L'2.lc.st racc2)
  have hki':=hki▸lw hlt
  induction b with
  | false=>exact ⟨_,hki',i+1,F'4,ρ4,acc,es,ep,rfl,hlt,L'4,racc4,nd,hl,q.1,q.2⟩
  | true=>
   rw [au rfl]
   refine ax (hk' A cenv F'4 GG ρ4 s'4 _ _ hA S st4 q) (fun uk s'5 h'5=>?_) am
   obtain ⟨tk,F'5,ρ5,q,st5,y'5,rk⟩:=h'5
   have L'5:=L'4.step st5 (y'5.h hHG)
   refine ax (hv' A cenv F'5 GG ρ5 s'5 _ _ hA S st5 q) (fun uv s'6 h'6=>?_) am
   obtain ⟨tv,F'6,ρ6,q,st6,y'6,rv⟩:=h'6
   have L'6:=L'5.step st6 (y'6.h hHG)
   obtain ⟨key,hkey,q⟩:=aW q
   obtain ⟨acc',hput,q⟩:=aW q
   refine qh hput fun hh hlt' z2=>?_
   subst z2
   refine p6 (eG (Nat.le_add_right _ _) hA.u) L'6.lc.pD L'6.hD (y'6.step.vrd st5 (y'5.step.vrd st4 racc4)) nd hh hlt' (gJ hkey▸y'6.step.vr st5 rk) rv fun es' ep' h' tk' hg' hs' r'=>?_
   have hk2:∀ b o,b≠D→s'6.heap.get? b=some o→h'.get? b=some o:=fun b o hb e=>(hs'.2 b hb).trans e
   exact ⟨_,hki',i+1,F'6,ρ6,g5 acc key tv,es',ep',rfl,hlt,⟨L'6.lc.touch (s':={ s'6 with heap:=h',toks:=tk' }) (.tail _ (.head _)) hP hHl hk2 rfl rfl,L'6.it.keep fun o=>hk2 I o hID,hg'⟩,r',ki nd,aI hJ hlt',q.1,q.2⟩
theorem xP {o:Option SE} (q:I5 o C ρ K) (k:∀ d,o=some d→d C ρ K→P):P:=by
 induction o with
 | none=>exact q.elim
 | some d=>exact k d rfl q
section
variable {F:Addr→Prop} {G:List bY} {ρ:Env} {s:Shared} {A:Around} {E:Value→Shared→Prop} {env:PySem.Env} {Q:Value→Shared→Prop} {K:T→Env→Prop}
theorem tG {ifs:List Expr} (hA:sQ n A) (S:dg W sc env G) (st:St W F G ρ s) (hi:cX W C n sc (eval iter) (bA tb sc iter))
  (hifs:∀ c∈ifs,nS W C n scope (fun env=>isTrue c env (eval c env)) (jV tb scope c (bf tb scope c (bA tb scope c)))) (helt:cX W C n scope (eval elt) (bA tb scope elt))
  (q:Af tb sc scope (eQ tb scope tgt) (bf tb sc iter (bA tb sc iter)) (hB tb scope .And ifs) (bA tb scope elt) C ρ K)
  (hnone:use=none→∀ D Cc t F' ρ' s',cU W F G ρ s K D Cc t F' ρ' s'→Q (.ref D) s')
  (hsome:∀ u,use=some u→∀ D Cc t F' ρ' s' m,cU W F G ρ s K D Cc t F' ρ' s'→s'.heap.Ns Cc m→wpAny (model W.prog W.w) A (u (.ref D)) (fun _ s''=>∃ m,s''.heap.Ns Cc m∧∀ h',Heap.SameBut Cc s''.heap h'→Q .none { s'' with heap:=h' }) E s') :
  wpAny (model W.prog W.w) A (comprehension (.ListComp elt [⟨tgt,iter,ifs,0⟩] scope pos) scope env p (newList []) false (eval iter env) use) Q E s:=by
 refine xP q fun d hd q=>sD hd fun hok hd=>dy hd fun g hg hd=>eU hd fun is his z=>?_
 subst z
 have KP:=so hok
 have q:(bf tb sc iter (bA tb sc iter)).run C ρ fun t ρ0=>fX (fW (bf tb sc iter (bA tb sc iter)) ρ0 t) fun xs=>ce (mx (bf tb sc iter (bA tb sc iter)) ρ0 is.length) g (hB tb scope .And ifs) (bA tb scope elt) C xs (c9 is ρ0) [] fun l ρ=>K (.list l) (ρ.drop is.length):=q
 rcases zo (env:=env) (iter:=iter) with hns | hbad
 ·refine rS (accO:=seqObj "list" ([]:List Value).toArray 0) (is:=is) hA S st KP his rfl hns hi rfl (fun {E s Q} h=>gT h (by size_fits)) q (fun xs F'1 ρ0 s₁ s'4 I D Cc hd R q hw' L fin=>?_) hnone hsome
  have lp:=Oj (R:=R) (iter:=iter) (pos:=pos) (scope:=scope) hA L.sees L.hH (fun e h=>du _ h) L.hHl hg (DX hifs) helt L.hID L.hP L.nin L.len L.src (fun F' ρ' s' acc vs m a b c d e f g=>fin F' ρ' s' _ a b c (.list rfl d f e) g) L.st L.y L.pv L.it L.acc sk q
  exact codeAny_compStart_list lp (z4 L.it lp)
 ·rw [hbad] at q;exact q.elim
theorem ub {kx vx:Expr} {ifs:List Expr} (hw:gZ W) (hA:sQ n A) (S:dg W sc env G) (st:St W F G ρ s) (hi:cX W C n sc (eval iter) (bA tb sc iter))
  (hifs:∀ c∈ifs,nS W C n scope (fun env=>isTrue c env (eval c env)) (jV tb scope c (bf tb scope c (bA tb scope c)))) (hkx:cX W C n scope (eval kx) (bA tb scope kx)) (hvx:cX W C n scope (eval vx) (bA tb scope vx))
  (q:zM tb sc scope (eQ tb scope tgt) (bf tb sc iter (bA tb sc iter)) (hB tb scope .And ifs) (bA tb scope kx) (bA tb scope vx) C ρ K)
  (hnone:use=none→∀ D Cc t F' ρ' s',cU W F G ρ s K D Cc t F' ρ' s'→Q (.ref D) s')
  (hsome:∀ u,use=some u→∀ D Cc t F' ρ' s' m,cU W F G ρ s K D Cc t F' ρ' s'→s'.heap.Ns Cc m→wpAny (model W.prog W.w) A (u (.ref D)) (fun _ s''=>∃ m,s''.heap.Ns Cc m∧∀ h',Heap.SameBut Cc s''.heap h'→Q .none { s'' with heap:=h' }) E s') :
  wpAny (model W.prog W.w) A (comprehension (.DictComp kx vx [⟨tgt,iter,ifs,0⟩] scope pos) scope env p newDict false (eval iter env) use) Q E s:=by
 refine xP q fun d hd q=>sD hd fun hok hd=>dy hd fun g hg hd=>eU hd fun is his z=>?_
 subst z
 have KP:=so hok
 have q:(bf tb sc iter (bA tb sc iter)).run C ρ fun t ρ0=>fX (fW (bf tb sc iter (bA tb sc iter)) ρ0 t) fun xs=>cS (mx (bf tb sc iter (bA tb sc iter)) ρ0 is.length) g (hB tb scope .And ifs) (bA tb scope kx) (bA tb scope vx) C xs (c9 is ρ0) [] fun l ρ=>K (.dict l) (ρ.drop is.length):=q
 rcases zo (env:=env) (iter:=iter) with hns | hbad
 ·refine rS (accO:=aL [] 0) (is:=is) hA S st KP his rfl hns hi rfl (fun {E s Q} h=>gT h) q (fun xs F'1 ρ0 s₁ s'4 I D Cc hd R q hw' L fin=>?_) hnone hsome
  have hsys:=Ds hw hw' (L.hP D (by simp))
  have lp:=Nq (R:=R) (iter:=iter) (pos:=pos) (scope:=scope) hA L.sees L.hH (fun e h=>du _ h) L.hHl hg (DX hifs) hkx hvx L.hID L.hP L.nin L.src (fun F' ρ' s' acc es ep a b c d e nd f g=>fin F' ρ' s' _ a b c (.dict rfl d f ⟨nd,hsys⟩ e) g) L.st L.y L.pv L.it L.acc sk q
  exact codeAny_compStart_dict lp (z4 L.it lp)
 ·rw [hbad] at q;exact q.elim
end
theorem B8 {ifs:List Expr} (hi:cX W C n sc (eval iter) (bA tb sc iter))
  (hifs:∀ c∈ifs,nS W C n scope (fun env=>isTrue c env (eval c env)) (jV tb scope c (bf tb scope c (bA tb scope c)))) (helt:cX W C n scope (eval elt) (bA tb scope elt)) :
  sA W C n sc (eval (.ListComp elt [⟨tgt,iter,ifs,0⟩] scope pos)) (Af tb sc scope (eQ tb scope tgt) (bf tb sc iter (bA tb sc iter)) (hB tb scope .And ifs) (bA tb scope elt)):=by
 intro A env F G ρ s Q E hA S st q
 rw [arm_eval_ListComp]
 exact tG hA S st hi hifs helt q (fun _ D Cc t F' ρ' s' z=>z.opost) fun u e=>nomatch e
theorem BF (hw:gZ W) {kx vx:Expr} {ifs:List Expr} (hi:cX W C n sc (eval iter) (bA tb sc iter))
  (hifs:∀ c∈ifs,nS W C n scope (fun env=>isTrue c env (eval c env)) (jV tb scope c (bf tb scope c (bA tb scope c)))) (hkx:cX W C n scope (eval kx) (bA tb scope kx)) (hvx:cX W C n scope (eval vx) (bA tb scope vx)) :
  sA W C n sc (eval (.DictComp kx vx [⟨tgt,iter,ifs,0⟩] scope pos)) (zM tb sc scope (eQ tb scope tgt) (bf tb sc iter (bA tb sc iter)) (hB tb scope .And ifs) (bA tb scope kx) (bA tb scope vx)):=by
 intro A env F G ρ s Q E hA S st q
 rw [arm_eval_DictComp]
 exact ub hw hA S st hi hifs hkx hvx q (fun _ D Cc t F' ρ' s' z=>z.opost) fun u e=>nomatch e
end
end
section
theorem mK:∀ {es:List Expr},fm tb sc es=es.map (bA tb sc)
 | []=>rfl
 | e::es=>aw (_::·) mK
theorem nW:∀ {es:List Expr},oX tb sc es=es.map fun e=>bf tb sc e (bA tb sc e)
 | []=>rfl
 | e::es=>aw (_::·) nW
theorem nH:∀ {es:List (Option Expr)},AF tb sc es=es.map fun o=>match o with | some e=>bA tb sc e | none=>b5
 | []=>rfl
 | none::es=>aw (_::·) nH
 | some e::es=>aw (_::·) nH
theorem qx {e:Expr} (h:tL e=true):∀ es k p,e≠.Set es k p:=fun es k p q=>by rw [q] at h;exact bt h
section
variable {W:Wd} {C:aC} {n:Nat}
noncomputable def fS (W:Wd) (C:aC) (n:Nat) (e:Expr):Prop:=∀ sc,cX W C n sc (eval e) (bA tb sc e)
noncomputable def Je (W:Wd) (C:aC) (n:Nat) (e:Expr):Prop:=∀ sc,nS W C n sc (fun env=>isTrue e env (eval e env)) (jV tb sc e (bf tb sc e (bA tb sc e)))
theorem yw {op:BoolOp} {vs:List Expr} (H:∀ e∈vs,fS W C n e):fS W C n (.BoolOp op vs pos):=by
 intro sc
 rw [show bA tb sc (.BoolOp op vs pos)=xz op (fm tb sc vs) from rfl,mK]
 match vs with
 | []=>exact bad
 | [a]=>exact bad
 | [a,b]=>exact Co (H a (by simp) sc) (H b (by simp) sc)
 | a::b::c::r=>exact bad
theorem dS {t:PySem.Env→Sem Value}:sA W C n sc t b5:=fun _ _ _ _ _ _ _ _ _ _ _ q=>q.elim
theorem wm (hw:gZ W) {ks:List (Option Expr)} {vs:List Expr} (Hk:∀ e,some e∈ks→fS W C n e) (H:∀ e∈vs,fS W C n e) (sc:PySem.Scope):sA W C n sc (eval (.Dict ks vs pos)) (bA tb sc (.Dict ks vs pos)):=by
 rw [show bA tb sc (.Dict ks vs pos)=dictOf (AF tb sc ks) (fm tb sc vs) from rfl,mK,nH]
 match ks,vs with
 | [],[]=>exact Cp hw
 | [],v::vs=>exact dS
 | k::ks,[]=>induction ks<;>exact dS
 | [k],[v]=>
  induction k with
  | none=>
   intro A env F G ρ s Q E hA S st q
   exact (show False from q).elim
  | some k=>exact AR hw (Hk k (by simp) sc) (H v (by simp) sc)
 | [k],v::v'::vs=>exact dS
 | k::k'::ks,v::vs=>exact dS
set_option tactic.hygienic true in
theorem qz (H:∀ e∈es,fS W C n e) (sc:PySem.Scope):sA W C n sc (eval (.List es pos)) (bA tb sc (.List es pos)):=by
 rw [show bA tb sc (.List es pos)=if many es then bM (kE (fm tb sc es)) else b5 from rfl]
 split
 ·rename_i hm
  have:es.all cZ=true:=by unfold many at hm;rw [bC] at hm;exact hm.1
  exact FP hm (kr this fun e h=>H e h sc)
 ·exact dS
set_option tactic.hygienic true in
theorem Cq (H:∀ e∈es,fS W C n e):fS W C n (.Tuple es k pos):=by
 intro sc
 rw [show bA tb sc (.Tuple es k pos)=if many es then aO (kE (fm tb sc es)) else b5 from rfl]
 split
 ·rename_i hm
  have:es.all cZ=true:=by unfold many at hm;rw [bC] at hm;exact hm.1
  exact KV hm (kr this fun e h=>H e h sc)
 ·exact bad
set_option tactic.hygienic true in
theorem tJ (He:fS W C n elt) (H:∀ g∈gs,fS W C n g.iter∧∀ c∈g.ifs,Je W C n c) (sc:PySem.Scope):sA W C n sc (eval (.ListComp elt gs scope pos)) (bA tb sc (.ListComp elt gs scope pos)):=by
 match gs with
 | []=>
  exact dS
 | [⟨tgt,iter,ifs,a⟩]=>
  show sA W C n sc _ (if a=0 then _ else b5)
  split
  ·rename_i ha
   subst ha
   obtain ⟨h1,h2⟩:=H _ (.head _)
   exact B8 (h1 sc) (fun c m=>h2 c m scope) (He scope)
  ·exact dS
 | _::_::_=>
  exact dS
set_option tactic.hygienic true in
theorem Cx (hw:gZ W) {k v:Expr} (Hk:fS W C n k) (Hv:fS W C n v) (H:∀ g∈gs,fS W C n g.iter∧∀ c∈g.ifs,Je W C n c) (sc:PySem.Scope):sA W C n sc (eval (.DictComp k v gs scope pos)) (bA tb sc (.DictComp k v gs scope pos)):=by
 match gs with
 | []=>
  exact dS
 | [⟨tgt,iter,ifs,a⟩]=>
  show sA W C n sc _ (if a=0 then _ else b5)
  split
  ·rename_i ha
   subst ha
   obtain ⟨h1,h2⟩:=H _ (.head _)
   exact BF hw (h1 sc) (fun c m=>h2 c m scope) (Hk scope) (Hv scope)
  ·exact dS
 | _::_::_=>
  exact dS
set_option tactic.hygienic true in
theorem Gz {l:Expr} {ops:List CmpOp} {rs:List Expr} (Hl:fS W C n l) (H:∀ e∈rs,fS W C n e):fS W C n (.Compare l ops rs pos):=by
 intro sc
 rw [show bA tb sc (.Compare l ops rs pos)=if rs.all tL then Jl ops (bA tb sc l) (oX tb sc rs) else b5 from rfl,nW]
 split
 ·rename_i hs
  match ops,rs with
  | [],_=>exact bad
  | [op],[]=>exact bad
  | [op],[r]=>exact MD (qx (by simpa using hs)) (Hl sc) (nI (H r (by simp) sc))
  | [op],_::_::_=>exact bad
  | _::_::_,_=>exact bad
 ·exact bad
set_option tactic.hygienic true in
theorem Gx {l:Expr} {ops:List CmpOp} {rs:List Expr} (Hl:fS W C n l) (H:∀ e∈rs,fS W C n e):Je W C n (.Compare l ops rs pos):=by
 intro sc
 rw [show ∀ o,jV tb sc (.Compare l ops rs pos) o=if rs.all tL then EX ops (bA tb sc l) (fm tb sc rs) (oX tb sc rs) else Ao from fun o=>rfl,nW,mK]
 split
 ·rename_i hs
  match ops,rs with
  | [],_=>exact xL
  | [op],[]=>exact xL
  | [op],[r]=>exact IV (qx (by simpa using hs)) (Hl sc) (nI (H r (by simp) sc))
  | [op],_::_::_=>exact xL
  | [op,op'],[]=>exact xL
  | [op,op'],[r]=>exact xL
  | [op,op'],[m,r]=>
   have hs':tL r=true:=by
    rw [List.all_cons,List.all_cons,bC,bC] at hs
    exact hs.2.1
   exact D3 (qx hs') (Hl sc) (H m (by simp) sc) (H r (by simp) sc)
  | [op,op'],_::_::_::_=>exact xL
  | _::_::_::_,_=>exact xL
 ·exact xL
theorem wh {p x:Nat} (h:Ay tb sc args p=some x) (k:∀ y pn,args[p]? = some (.Name y pn)→cR sc y=true→bm x y→P):P:=dy h fun e h1 h2=>kg h2 fun y pn h3 h4 h5=>k y pn (h1.trans (aw some h3)) h4 (dj h5)
theorem Gd {c:Nat} (h:tb.cls y=some (c,i)):(y==("__debug__":Str))=false:=by
 refine eF.mpr fun e=>?_
 subst e
 have:tb.cls ("__debug__":Str)=none:=by decide +kernel
 rw [this] at h;exact nn h
noncomputable def PY (sc:PySem.Scope) (args:List Expr):Option ji:=match args with | [_]=>(oX tb sc args)[0]? | _=>none
theorem t9 (h:(cw sc x&&gY args&&x != ("__debug__":Str))=true):cw sc x=true∧gY args=true∧(x==("__debug__":Str))=false:=
 have h1:=cz.mp h
 ⟨(cz.mp h1.1).1,(cz.mp h1.1).2,eF.mpr (bne_iff_ne.mp h1.2)⟩
theorem mL:bA tb sc (.Call (.Name x px) args [] pos)=Fq tb sc x args (kE (fm tb sc args)) (fun p=>kE ((fm tb sc args).eraseIdx p)) (fm tb sc args)[0]? (PY sc args):=rfl
theorem vE (hw:gZ W) (hC:cC W C n) (H:∀ e∈args,fS W C n e):fS W C n (.Call (.Name x px) args [] pos):=by
 intro sc
 rw [mL]
 have HL:gY args=true→xZ W C n sc args (kE (fm tb sc args)):=fun hf=>kr (bu hf) fun e h=>H e h sc
 refine uL fun d h=>sD h fun hc h=>?_
 obtain ⟨hg,hf,hd⟩:=t9 hc
 unfold Gg at h
 induction hcls:tb.cls x with
 | some c=>rw [hcls] at h;exact az h▸LJ hw hC hg hd hf hcls (HL hf)
 | none=>
  rw [hcls] at h
  induction hfn:tb.fn x with
  | some p=>
   rw [hfn] at h
   obtain ⟨i,r⟩:=p
   induction r with
   | none=>exact az h▸IM hw hC hg hd hf hfn (HL hf)
   | some p=>exact eU h fun y hy z=>wh hy fun w pn h1 h2 h3=>z▸yn hw hC hg hd hf hfn h1 h2 h3 fun e h=>H e h sc
  | none=>
   rw [hfn] at h
   refine kG h (fun hx h=>?_) fun h=>?_
   ·subst hx
    refine dy h fun s hs h=>dy h fun q hq h=>dy h fun c hc h=>sD h fun hy h=>eU h fun p hp z=>mv hc fun pc hpc=>?_
    have ha:=xf hq
    rw [hpc] at ha
    subst ha
    obtain rfl:=az hs
    exact z▸Bx hw hg hf hy (Gd hp) hp (H q.1 (.head _) sc)
   ·refine dy h fun b hb h=>eU h fun o ho z=>?_
    induction args with
    | nil=>exact nn ho
    | cons a r=>
     induction r with
     | cons=>exact nn ho
     | nil=>
      obtain rfl:=az ho
      exact z▸N4 hw hg hd (cz.mp (bu hf)).1 hb (nI (H a (.head _) sc))
set_option tactic.hygienic true in
theorem vj (hw:gZ W) (hC:cC W C n) {o:Expr} {m:Str} (Ho:fS W C n o) (H:∀ e∈args,fS W C n e):fS W C n (.Call (.Attribute o m ap) args [] pos):=by
 intro sc
 rw [show bA tb sc (.Call (.Attribute o m ap) args [] pos)=yU tb m o ap pos args (bA tb sc o) (bf tb sc o (bA tb sc o)) (kE (fm tb sc args)) from rfl]
 unfold yU
 split
 ·rename_i hc
  rw [bC,bC] at hc
  obtain ⟨⟨hb,hf⟩,hp⟩:=hc
  have HL:xZ W C n sc args (kE (fm tb sc args)):=kr (bu hf) fun e h=>H e h sc
  split
  ·rename_i hm;exact Et hb hf hp hm (Ho sc) HL
  ·rename_i b hv hm;exact JY hb hf hp hm hv (Ho sc) HL
  ·split
   ·rename_i i hi;exact HP hw hC hb hf hp (dj hi) (Ho sc) HL
   ·exact bad
 ·exact bad
theorem Dn (hw:gZ W) (hC:cC W C n) {f:Expr} (Hf:∀ o m ap,f=.Attribute o m ap→fS W C n o) (H:∀ e∈args,fS W C n e):fS W C n (.Call f args ks pos):=by
 induction ks with
 | cons k ks=>intro sc;exact bad
 | nil=>
  cases f with
  | Name x px=>exact vE hw hC H
  | Attribute o m ap=>exact vj hw hC (Hf o m ap rfl) H
  | _=>intro sc;exact bad
theorem GN {v s:Expr} (Hv:fS W C n v) (Hs:fS W C n s) (Hl:∀ lo hi st p,s=.Slice lo hi st p→(∀ e,lo=some e→fS W C n e)∧∀ e,hi=some e→fS W C n e):fS W C n (.Subscript v s pos):=by
 intro sc
 by_cases hs:∃ lo hi st p,s=.Slice lo hi st p
 ·obtain ⟨lo,hi,st,p,rfl⟩:=hs
  obtain ⟨h1,h2⟩:=Hl lo hi st p rfl
  induction st with
  | some st=>exact bad
  | none=>
   induction lo with
   | none=>
    induction hi with
    | none=>exact bad
    | some hi=>exact FS (Hv sc) (h2 hi rfl sc)
   | some lo=>
    induction hi with
    | none=>exact bad
    | some hi=>exact Lj (Hv sc) (h1 lo rfl sc) (h2 hi rfl sc)
 ·rw [show bA tb sc (.Subscript v s pos)=DR (bA tb sc v) (bf tb sc v (bA tb sc v)) (bA tb sc s) none none false by
   cases s with
   | Slice lo hi st p=>exact absurd ⟨lo,hi,st,p,rfl⟩ hs
   | _=>rfl]
  exact KZ (Hv sc) (Hs sc)
theorem AI {op:BoolOp} {vs:List Expr} (H:∀ e∈vs,Je W C n e) (sc:PySem.Scope):nS W C n sc (fun env=>allTrue op vs env) (hB tb sc op vs):=by
 induction vs with
 | nil=>induction op<;>exact HY
 | cons e vs ih=>exact DS (H e (.head _) sc) (ih fun e h=>H e (.tail _ h))
structure PE (W:Wd) (C:aC) (n:Nat) (e:Expr):Prop where
 e_:fS W C n e
 b:Je W C n e
 at_:∀ o m ap,e=.Attribute o m ap→fS W C n o
 sl:∀ lo hi st p,e=.Slice lo hi st p→(∀ x,lo=some x→fS W C n x)∧∀ x,hi=some x→fS W C n x
theorem gK {e:Expr} (h:fS W C n e) (he:∀ env,isTrue e env (eval e env)=(do let v ← eval e env;standAt e.pos;holding [v] (truthy v))) (hd:∀ sc o,jV tb sc e o=cQ o):Je W C n e:=fun sc=>by rw [hd];exact Bn (nI (h sc)) he
theorem Ek {e:Expr} (h:∀ sc,bA tb sc e=b5):fS W C n e:=fun sc=>by rw [h];exact bad
theorem PE.bad {e:Expr} (h:∀ sc,bA tb sc e=b5) (he:∀ env,isTrue e env (eval e env)=(do let v ← eval e env;standAt e.pos;holding [v] (truthy v))) (hd:∀ sc o,jV tb sc e o=cQ o)
  (ha:∀ o m ap,e=.Attribute o m ap→fS W C n o) (hs:∀ lo hi st p,e=.Slice lo hi st p→(∀ x,lo=some x→fS W C n x)∧∀ x,hi=some x→fS W C n x):PE W C n e:=⟨Ek h,gK (Ek h) he hd,ha,hs⟩
noncomputable def PG (W:Wd) (C:aC) (n:Nat) (g:Comprehension):Prop:=fS W C n g.iter∧∀ c∈g.ifs,Je W C n c
theorem As (hw:gZ W) (hC:cC W C n) (e:Expr):PE W C n e:=by
 apply Expr.rec (motive_1:=PE W C n) (motive_2:=fun _=>True) (motive_3:=PG W C n) (motive_4:=fun _=>True) (motive_5:=fun _=>True) (motive_6:=fun _=>True) (motive_7:=fun _=>True) (motive_8:=fun _=>True) (motive_9:=fun _=>True) (motive_10:=fun _=>True) (motive_11:=fun _=>True)
  (motive_12:=fun es=>∀ x∈es,PE W C n x) (motive_13:=fun es=>∀ x,some x∈es→PE W C n x) (motive_14:=fun gs=>∀ g∈gs,PG W C n g) (motive_15:=fun o=>∀ x,o=some x→PE W C n x)
  (motive_16:=fun _=>True) (motive_17:=fun _=>True) (motive_18:=fun _=>True) (motive_19:=fun _=>True) (motive_20:=fun _=>True) (motive_21:=fun _=>True) (motive_22:=fun _=>True) (motive_23:=fun _=>True) (motive_24:=fun _=>True) (motive_25:=fun _=>True) (t:=e)
 case BoolOp=>exact fun op vs pos ih=>⟨yw fun x m=>(ih x m).e_,AI fun x m=>(ih x m).b,fun _ _ _=>Expr.noConfusion,fun _ _ _ _=>Expr.noConfusion⟩
 case BinOp=>exact fun l op r pos hl hr=>have h:fS W C n _:=fun sc=>LH (hl.e_ sc) (hr.e_ sc);⟨h,gK h (fun _=>rfl) fun _ _=>rfl,fun _ _ _=>Expr.noConfusion,fun _ _ _ _=>Expr.noConfusion⟩
 case UnaryOp=>
  intro op x pos hx
  refine ⟨?_,?_,fun _ _ _=>Expr.noConfusion,fun _ _ _ _=>Expr.noConfusion⟩
  ·induction op with
   | USub=>exact fun sc=>C9 (hx.e_ sc)
   | _=>exact Ek fun _=>rfl
  ·induction op with
   | USub=>exact gK (fun sc=>C9 (hx.e_ sc)) (fun _=>rfl) fun _ _=>rfl
   | Not=>exact fun sc=>GQ (hx.b sc)
   | _=>exact gK (Ek fun _=>rfl) (fun _=>rfl) fun _ _=>rfl
 case IfExp=>exact fun t b o pos ht hb ho=>⟨fun sc=>MK (ht.b sc) (hb.e_ sc) (ho.e_ sc),fun sc=>GT (ht.b sc) (hb.b sc) (ho.b sc),fun _ _ _=>Expr.noConfusion,fun _ _ _ _=>Expr.noConfusion⟩
 case Dict=>exact fun ks vs pos hk hv=>have h:fS W C n (.Dict ks vs pos):=fun sc=>(wm hw (fun x m=>(hk x m).e_) (fun x m=>(hv x m).e_) sc).e;⟨h,gK h (fun _=>rfl) fun _ _=>rfl,fun _ _ _=>Expr.noConfusion,fun _ _ _ _=>Expr.noConfusion⟩
 case ListComp=>exact fun elt gs scope pos h1 h2=>have h:fS W C n (.ListComp elt gs scope pos):=fun sc=>(tJ h1.e_ h2 sc).e;⟨h,gK h (fun _=>rfl) fun _ _=>rfl,fun _ _ _=>Expr.noConfusion,fun _ _ _ _=>Expr.noConfusion⟩
 case DictComp=>exact fun k v gs scope pos h1 h2 h3=>have h:fS W C n (.DictComp k v gs scope pos):=fun sc=>(Cx hw h1.e_ h2.e_ h3 sc).e;⟨h,gK h (fun _=>rfl) fun _ _=>rfl,fun _ _ _=>Expr.noConfusion,fun _ _ _ _=>Expr.noConfusion⟩
 case Compare=>exact fun l ops rs pos hl hr=>⟨Gz hl.e_ fun x m=>(hr x m).e_,Gx hl.e_ fun x m=>(hr x m).e_,fun _ _ _=>Expr.noConfusion,fun _ _ _ _=>Expr.noConfusion⟩
 case Call=>exact fun f args ks pos hf ha _=>have h:fS W C n (.Call f args ks pos):=Dn hw hC hf.at_ fun x m=>(ha x m).e_;⟨h,gK h (fun _=>rfl) fun _ _=>rfl,fun _ _ _=>Expr.noConfusion,fun _ _ _ _=>Expr.noConfusion⟩
 case Constant=>exact fun c j pos=>have h:fS W C n (.Constant c j pos):=fun sc=>Eh;⟨h,gK h (fun _=>rfl) fun _ _=>rfl,fun _ _ _=>Expr.noConfusion,fun _ _ _ _=>Expr.noConfusion⟩
 case Attribute=>exact fun v a pos hv=>have h:fS W C n (.Attribute v a pos):=fun sc=>HW hw (nI (hv.e_ sc));⟨h,gK h (fun _=>rfl) fun _ _=>rfl,fun o m ap z=>(Expr.Attribute.inj z).1▸hv.e_,fun _ _ _ _=>Expr.noConfusion⟩
 case Subscript=>exact fun v s pos hv hs=>have h:fS W C n (.Subscript v s pos):=GN hv.e_ hs.e_ hs.sl;⟨h,gK h (fun _=>rfl) fun _ _=>rfl,fun _ _ _=>Expr.noConfusion,fun _ _ _ _=>Expr.noConfusion⟩
 case Name=>exact fun x pos=>have h:fS W C n (.Name x pos):=fun sc=>G8 hw;⟨h,gK h (fun _=>rfl) fun _ _=>rfl,fun _ _ _=>Expr.noConfusion,fun _ _ _ _=>Expr.noConfusion⟩
 case List=>exact fun es pos ih=>have h:fS W C n (.List es pos):=fun sc=>(qz (fun x m=>(ih x m).e_) sc).e;⟨h,gK h (fun _=>rfl) fun _ _=>rfl,fun _ _ _=>Expr.noConfusion,fun _ _ _ _=>Expr.noConfusion⟩
 case Tuple=>exact fun es j pos ih=>have h:fS W C n (.Tuple es j pos):=Cq fun x m=>(ih x m).e_;⟨h,gK h (fun _=>rfl) fun _ _=>rfl,fun _ _ _=>Expr.noConfusion,fun _ _ _ _=>Expr.noConfusion⟩
 case Slice=>exact fun lo hi st pos h1 h2 _=>have h:fS W C n (.Slice lo hi st pos):=Ek fun _=>rfl;⟨h,gK h (fun _=>rfl) fun _ _=>rfl,fun _ _ _=>Expr.noConfusion,fun l h s p z=>⟨fun x e=>(h1 x ((Expr.Slice.inj z).1.trans e)).e_,fun x e=>(h2 x ((Expr.Slice.inj z).2.1.trans e)).e_⟩⟩
 case mk=>exact fun t i ifs a _ hi hf=>⟨hi.e_,fun c m=>(hf c m).b⟩
 all_goals first
  | (intros;trivial)
  | exact fun _ _ h1 h2 x m=>(aU.mp m).elim (fun e=>e▸h1) (h2 x)
  | exact fun _ _ h1 h2 x m=>(aU.mp m).elim (fun e=>h1 x e.symm) (h2 x)
  | exact fun _ h x e=>az e▸h
  | (intros;exact PE.bad (fun _=>rfl) (fun _=>rfl) (fun _ _=>rfl) (fun _ _ _=>Expr.noConfusion) fun _ _ _ _=>Expr.noConfusion)
theorem rM (hw:gZ W) (hC:cC W C n) (e:Expr):fS W C n e:=(As hw hC e).e_
theorem Op (hw:gZ W) (hC:cC W C n) (e:Expr):Je W C n e:=(As hw hC e).b
end
end
section
inductive Od (W:Wd) (F:Addr→Prop) (h:Heap):Fl→Flow→Prop
 | next:Od W F h .next .next
 | cont:Od W F h .cont .cont
 | brk:Od W F h .brk .brk
 | ret (t:T) (v:Value) (r:VR W F h t v):Od W F h (.ret t) (.ret v)
inductive j0 (W:Wd) (F:Addr→Prop) (G:List bY) (ρ:Env) (s:Shared) (Q:Fl→Env→Prop) (f:Flow) (s':Shared):Prop where
 | mk (fl:Fl) (F':Addr→Prop) (G':List bY) (ρ':Env) (h1:Q fl ρ') (h2:Od W F' s'.heap fl f) (h3:St W F' G' ρ' s') (h4:eR F G ρ s F' G' ρ' s')
noncomputable def mu (W:Wd) (C:aC) (n:Nat) (sc:PySem.Scope) (t:PySem.Env→Sem Flow) (d:SS):Prop:=
 ∀ A env F G ρ s Q E,sQ n A→dg W sc env G→St W F G ρ s→d C ρ Q→wpAny (model W.prog W.w) A (t env) (j0 W F G ρ s Q) E s
section
variable {W:Wd} {F F'1:Addr→Prop} {G G'1:List bY} {ρ ρ1:Env} {s s₁ s₂:Shared}
theorem j0.after {Q:Fl→Env→Prop} {f:Flow} (y:eR F G ρ s F'1 G'1 ρ1 s₁) (x:j0 W F'1 G'1 ρ1 s₁ Q f s₂):j0 W F G ρ s Q f s₂:=
 let ⟨fl,F',G',ρ',a,b,c,d⟩:=x;⟨fl,F',G',ρ',a,b,c,y.trans d⟩
end
section
variable {W:Wd} {C:aC} {n:Nat} {sc:PySem.Scope}
theorem pZ {t:PySem.Env→Sem Flow}:mu W C n sc t ua:=fun _ _ _ _ _ _ _ _ _ _ _ q=>q.elim
theorem HR:mu W C n sc (execs []) aj:=by
 intro A env F G ρ s Q E hA S st q
 rw [arm_execs_nil]
 exact al ⟨.next,F,G,ρ,q,.next,st,.refl⟩
theorem Dd {x:Stmt} {xs:List Stmt} {a b:SS} (ha:mu W C n sc (exec x) a) (hb:mu W C n sc (execs xs) b):mu W C n sc (execs (x::xs)) (ai a b):=by
 intro A env F G ρ s Q E hA S st q
 rw [arm_execs_cons]
 refine ac (ax (ha A env F G ρ s _ E hA S st q) (fun f s₁ h'1=>?_) am)
 obtain ⟨fl,F'1,G'1,ρ1,q,r,st1,y'1⟩:=h'1
 induction r with
 | next=>exact ax (hb A env F'1 G'1 ρ1 s₁ _ E hA (S.sh y'1.sh) st1 q) (fun _ _ z=>z.after y'1) am
 | cont=>exact al ⟨.cont,F'1,G'1,ρ1,q,.cont,st1,y'1⟩
 | brk=>exact al ⟨.brk,F'1,G'1,ρ1,q,.brk,st1,y'1⟩
 | ret t v r=>exact al ⟨.ret t,F'1,G'1,ρ1,q,.ret _ _ r,st1,y'1⟩
theorem E2:mu W C n sc (exec (.Pass pos)) aj:=by
 intro A env F G ρ s Q E hA S st q
 rw [arm_exec_Pass]
 exact ac (dJ (al ⟨.next,F,G,ρ,q,.next,st,.refl⟩))
theorem Ev:mu W C n sc (exec (.Continue pos)) C7:=by
 intro A env F G ρ s Q E hA S st q
 rw [arm_exec_Continue]
 exact ac (dJ (al ⟨.cont,F,G,ρ,q,.cont,st,.refl⟩))
theorem GI {e:Expr} {d:SE} (h:cX W C n sc (eval e) d):mu W C n sc (exec (.Return (some e) pos)) (aR d):=by
 intro A env F G ρ s Q E hA S st q
 refine wpAny_Return_some (ax (h A env F G ρ s _ E hA S st q) (fun v s₁ h'1=>?_) am)
 obtain ⟨t,F'1,ρ1,q,st1,y'1,r⟩:=h'1
 exact ⟨.ret t,F'1,G,ρ1,q,.ret _ _ r,st1,y'1.step⟩
theorem J3 {test:Expr} {o:List Stmt} {c:SB} {db do':SS} (hc:nS W C n sc (fun env=>isTrue test env (eval test env)) c) (hb:mu W C n sc (execs b) db) (ho:mu W C n sc (execs o) do') :
  mu W C n sc (exec (.If test b o pos)) (fq c db do'):=by
 intro A env F G ρ s Q E hA S st q
 rw [arm_exec_If]
 refine ac (dJ (ac (ax (hc A env F G ρ s _ E hA S st q) (fun t s₁ h'1=>?_) am)))
 obtain ⟨F'1,ρ1,q,st1,y'1⟩:=h'1
 induction t with
 | true=>exact ax (hb A env F'1 G ρ1 s₁ _ E hA S st1 q) (fun _ _ z=>z.after y'1.step) am
 | false=>exact ax (ho A env F'1 G ρ1 s₁ _ E hA S st1 q) (fun _ _ z=>z.after y'1.step) am
inductive O8 (W:Wd) (C:aC) (F:Addr→Prop) (G:List bY) (ρ:Env) (s:Shared) (c:SB) (db:SS) (Q:Fl→Env→Prop) (m:Nat) (s':Shared):Prop where
 | mk (F':Addr→Prop) (G':List bY) (ρ':Env) (st:St W F' G' ρ' s') (y:eR F G ρ s F' G' ρ' s') (q:kq c db C m ρ' Q)
theorem Cz {test:Expr} {c:SB} {db:SS} (hc:nS W C n sc (fun env=>isTrue test env (eval test env)) c) (hb:mu W C n sc (execs b) db):mu W C n sc (exec (.While test b [] pos)) (rG c db):=by
 intro A env F G ρ s Q E hA S st q
 obtain ⟨k,q⟩:=q
 refine wpAny_While (codeAny_whileLoop (O8 W C F G ρ s c db Q) (fun m s' I=>?_) k ⟨F,G,ρ,st,.refl,q⟩)
 obtain ⟨F',G',ρ',st',y',q⟩:=I
 induction m with
 | zero=>exact q.elim
 | succ m=>
  have S':=S.sh y'.sh
  refine ax (hc A env F' G' ρ' s' _ _ hA S' st' q) (fun t s₁ h'1=>?_) am
  obtain ⟨F'1,ρ1,q,st1,y'1⟩:=h'1
  induction t with
  | false=>
   rw [av (by decide)]
   exact wpAny_execs_nil ⟨.next,F'1,G',ρ1,q,.next,st1,y'.trans y'1.step⟩
  | true=>
   refine Eq.symm (au rfl)▸?_
   refine ax (hb A env F'1 G' ρ1 s₁ _ _ hA S' st1 q) (fun f s₂ h'2=>?_) am
   obtain ⟨fl,F'2,G'2,ρ2,q,r,st2,y'2⟩:=h'2
   have y:=(y'.trans y'1.step).trans y'2
   induction r with
   | next=>exact ⟨m,Nat.lt_succ_self _,F'2,G'2,ρ2,st2,y,q⟩
   | cont=>exact ⟨m,Nat.lt_succ_self _,F'2,G'2,ρ2,st2,y,q⟩
   | brk=>exact ⟨.next,F'2,G'2,ρ2,q,.next,st2,y⟩
   | ret t v r=>exact ⟨.ret t,F'2,G'2,ρ2,q,.ret _ _ r,st2,y⟩
structure FX (W:Wd) (F:Addr→Prop) (G:List bY) (ρ:Env) (s:Shared) (F'1:Addr→Prop) (s₁:Shared) (I:Addr) (F':Addr→Prop) (G':List bY) (ρ':Env) (s':Shared):Prop where
 st:St W F' G' ρ' s'
 y:eR F G ρ s F' G' ρ' s'
 mono:∀ a,F'1 a→F' a
 keep:∀ a o,F'1 a→s₁.heap.get? a=some o→s'.heap.get? a=some o
 pv:iq W F' G' ρ' [I]
inductive PS (W:Wd) (C:aC) (F:Addr→Prop) (G:List bY) (ρ:Env) (s:Shared) (F'1:Addr→Prop) (s₁:Shared) (I:Addr) (hd:Hd) (xs:List T) (g:m8) (db:SS) (Q:Fl→Env→Prop) (m:Nat) (s':Shared):Prop where
 | mk (i:Nat) (F':Addr→Prop) (G':List bY) (ρ':Env) (hm:m=xs.length - i) (hle:i≤xs.length) (X:FX W F G ρ s F'1 s₁ I F' G' ρ' s') (it:g4 s'.heap I i hd) (q:eY g db C (xs.drop i) ρ' Q)
section
variable {F F'1 F'2 F':Addr→Prop} {G G'2 G':List bY} {ρ ρ2 ρ':Env} {s s₁ s₂ s':Shared} {I:Addr} {hd:Hd} {i:Nat} {xs:List T} {r:Option Value}
theorem FX.step (X:FX W F G ρ s F'1 s₁ I F'2 G'2 ρ2 s₂) (st:St W F' G' ρ' s') (y:eR F'2 G'2 ρ2 s₂ F' G' ρ' s') (l:∃ o,s₂.heap.get? I=some o):FX W F G ρ s F'1 s₁ I F' G' ρ' s':=
 ⟨st,X.y.trans y,fun a f=>y.mono a (X.mono a f),fun a o f e=>y.keep a o (X.keep a o f e) (fun z=>X.st.ownF _ z (X.mono a f)) fun e he q=>X.st.plF e he (q▸X.mono a f),X.pv.step y fun a m=>aV.mp m▸l⟩
theorem FX.it (X:FX W F G ρ s F'1 s₁ I F'2 G'2 ρ2 s₂) (y:eR F'2 G'2 ρ2 s₂ F' G' ρ' s') (it:g4 s₂.heap I i hd):g4 s'.heap I i hd:=it.keep fun o=>X.pv.keep y (.head _)
theorem FX.next (X:FX W F G ρ s F'1 s₁ I F'2 G'2 ρ2 s₂) (sI:s.heap.get? I=none) (z:k8 W F'2 I i hd xs s₂ r s'):FX W F G ρ s F'1 s₁ I F'2 G'2 ρ2 s':=
 have hk:∀ b o,b∉[I]→s₂.heap.get? b=some o→s'.heap.get? b=some o:=fun b o hb=>z.keep b o fun e=>hb (e▸.head _)
 ⟨X.st.touch X.pv hk,X.y.touch (P:=[I]) (fun a m=>aV.mp m▸sI) hk z.gens z.os,X.mono,fun a o f e=>z.keep a o (fun m=>(X.pv I (.head _)).1 (m▸X.mono a f)) (X.keep a o f e),X.pv⟩
end
theorem Fc {I:Addr} (st:St W F G ρ s) (h:s.heap.get? I=none):iq W F G ρ [I]:=fun a m=>by
 refine Eq.symm (aV.mp m)▸?_
 refine ⟨fun f=>?_,fun m=>?_,fun e he z=>?_,?_⟩
 ·obtain ⟨o,e⟩:=st.live _ f;exact nn (h.symm.trans e)
 ·obtain ⟨o,e⟩:=st.env.live m;exact nn (h.symm.trans e)
 ·obtain ⟨o,e⟩:=st.env.liveP he;exact nn (h.symm.trans (z▸e))
 ·induction e:W.h0.get? I with
  | none=>rfl
  | some o=>exact nn (h.symm.trans (st.world I o e))
theorem H3 {g:m8} {db:SS} (hi:cX W C n sc (eval iter) (bA tb sc iter)) (hg:eQ tb sc tgt=some g) (hb:mu W C n sc (execs b) db):mu W C n sc (exec (.For tgt iter b [] pos)) (fI (bf tb sc iter (bA tb sc iter)) g db):=by
 intro A env F G ρ s Q E hA S st q
 have hs:=zo (sc:=sc) (env:=env) (iter:=iter)
 rcases hs with hs | hs
 ·refine wpAny_For (ax (xr hA S st hi (P:=fun xs ρ0=>iV (bf tb sc iter (bA tb sc iter)) ρ0=none∧eY g db C xs ρ0 Q) (fun t ρ0 h=>?_) q) (fun x s₁ h'1=>ax h'1 (fun it s₂ h'2=>?_) am) am) hs
  ·obtain ⟨h1,h2⟩:=h
   obtain ⟨xs,hx,h2⟩:=aW h2
   refine ab (a:=xs) ?_ ⟨h1,h2⟩
   unfold fW
   refine Eq.symm (h1)▸?_;exact hx
  ·obtain ⟨xs,ρ0,F'1,I,hd,⟨ho,q⟩,rfl,X⟩:=h'2
   have sI:s.heap.get? I=none:=X.step.step.lives _ X.new
   obtain ⟨st2,y'2⟩:=X.st.grow X.grow
   refine codeAny_forLoop_any (PS W C F G ρ s F'1 s₁ I hd xs g db Q) (fun m s' II=>?_) xs.length
    ⟨0,F'1,G,ρ0,rfl,cr _,⟨st2,(X.step.trans y'2).step,fun _ f=>f,fun a o _ e=>X.grow.keep a o e,Fc X.st X.new⟩,X.it,q⟩
   obtain ⟨i,F',G',ρ',hm,hle,Y,it,q⟩:=II
   have S':=S.sh Y.y.sh
   refine ax (kB hA.handled (Y.pv I (.head _)).1 it (X.fz ho F' s' Y.mono Y.keep) X.nin) (fun r s'3 z=>?_) am
   have Y3:=Y.next sI z
   induction hx:xs[i]? with
   | none=>
    refine Eq.symm (z.fin hx)▸?_
    rw [List.drop_eq_nil_of_le (List.getElem?_eq_none_iff.mp hx),oj] at q
    exact wpAny_execs_nil ⟨.next,F',G',ρ',q,.next,Y3.st,Y3.y⟩
   | some x=>
    obtain ⟨v,rv,it3⟩:=z.item hx
    have hlt:i < xs.length:=(g8.mp hx).1
    rw [oa hx,lE] at q
    refine rQ it3 (ax (u0 (H:=[]) hA.handled S' (fun _ _ _ _ _ _ _ m=>nomatch m) (fun _ m=>nomatch m) hg Y3.st rv q) (fun _ s'4 h'4=>?_) am)
    obtain ⟨ρ4,q,st4,y'4⟩:=h'4
    have Y4:=Y3.step st4 y'4.step it3.live
    have it4:=Y3.it y'4.step it3
    refine ax (hb A env F' G' ρ4 s'4 _ _ hA S' st4 q) (fun f s'5 h'5=>?_) am
    obtain ⟨fl,F'5,G'5,ρ5,q,r,st5,y'5⟩:=h'5
    have Y5:=Y4.step st5 y'5 it4.live
    have it5:=Y4.it y'5 it4
    have hm':=hm▸lw hlt
    induction r with
    | next=>exact ⟨_,hm',i+1,F'5,G'5,ρ5,rfl,hlt,Y5,it5,q⟩
    | cont=>exact ⟨_,hm',i+1,F'5,G'5,ρ5,rfl,hlt,Y5,it5,q⟩
    | brk=>exact ⟨.next,F'5,G'5,ρ5,q,.next,st5,Y5.y⟩
    | ret t v r=>exact ⟨.ret t,F'5,G'5,ρ5,q,.ret _ _ r,st5,Y5.y⟩
 ·rw [hs] at q;exact q.elim
end
end
section
noncomputable def vR:Expr→Bool
 | .ListComp _ _ _ _=>true
 | .DictComp _ _ _ _ _=>true
 | .SetComp _ _ _ _=>true
 | _=>false
noncomputable def NG (v t:Expr) (line:Nat) (env:PySem.Env):Prop:=∃ b,swapsWith v (some t) line env=pure b∧(b=true→(∃ x p,t=.Name x p)∧vR v=true)
theorem NG.r {v t:Expr} {line:Nat} (h:swapsWith v (some t) line env=pure false):NG v t line env:=⟨false,h,fun e=>nomatch e⟩
theorem NG.l {v:Expr} {b:Bool} {line:Nat} (h:swapsWith v (some (.Name x p)) line env=pure b) (hc:vR v=true):NG v (.Name x p) line env:=⟨b,h,fun _=>⟨⟨_,_,rfl⟩,hc⟩⟩
theorem FV {v t:Expr} {line:Nat}:NG v t line env:=by
 cases v with
 | ListComp _ _ _ _=>cases t with
  | Name x p=>exact .l rfl rfl
  | _=>exact .r rfl
 | SetComp _ _ _ _=>cases t with
  | Name x p=>exact .l rfl rfl
  | _=>exact .r rfl
 | DictComp _ _ _ _ _=>cases t with
  | Name x p=>exact .l rfl rfl
  | _=>exact .r rfl
 | _=>exact .r rfl
noncomputable def Ps (t v:Expr) (env:PySem.Env):Prop:=(∀ ts k p,t=.Tuple ts k p→mR v=false)→(∀ ts p,t≠.List ts p)→swappedStores [t] v env=pure none
theorem Ps.r {v t:Expr} (h:swappedStores [t] v env=pure none):Ps t v env:=fun _ _=>h
theorem eO {t v:Expr}:Ps t v env:=by
 cases t with
 | Tuple ts k p=>cases v with
  | Tuple _ _ _=>exact fun h _=>nomatch h ts k p rfl
  | _=>exact .r rfl
 | List ts p=>exact fun _ h=>absurd rfl (h ts p)
 | _=>exact .r rfl
section
variable {W:Wd} {C:aC} {n:Nat} {sc:PySem.Scope} {F F'0:Addr→Prop} {G:List bY} {ρ ρ0:Env} {s s'0:Shared} {M:Model} {A:Around} {E:Value→Shared→Prop} {env:PySem.Env}
inductive kA (W:Wd) (F'0:Addr→Prop) (G:List bY) (ρ0:Env) (s'0:Shared) (F:Addr→Prop) (ρ:Env) (s:Shared) (i:Nat) (sl:Slot) (as:List Addr) (s':Shared):Prop where
 | mk (L:Addr) (G':List bY) (h1:St W F G' (ρ.set i sl) s') (h2:eR F'0 G ρ0 s'0 F G' (ρ.set i sl) s') (h3:(∀ a∈bk G' (ρ.set i sl),a∈as∨a∈bk G ρ)) (h4:(∃ e∈G,e.pl.addr=L)) (h5:∀ b o,b≠L→s.heap.get? b=some o→s'.heap.get? b=some o)
theorem zF (S:dg W sc env G) (h:cu sc x=true) (hi:bm i x) (st:St W F G ρ s) (y:b2 F'0 G ρ0 s'0 F ρ s) {t:T} (r:VR W F s.heap t v) :
  wpAny M A (assign (.Name x p) env v) (fun _ s'=>kA W F'0 G ρ0 s'0 F ρ s i (.val t) [] s') E s:=by
 refine wpAny_assign_Name ?_
 obtain ⟨e,hf,_,go⟩:=jQ (M:=M) (A:=A) (E:=E) S h hi st (v:=v)
 refine go fun s' hg ho hk hoth hv=>?_
 have nF:¬ F e.pl.addr:=st.plF e (ck hf)
 obtain ⟨G',e1,e2,st',y'⟩:=st.store y.step (as:=e.own) (sl':=.val t) hf hk hoth ⟨v,hv,r.mono (fun _ f=>f) fun a o f=>hk a o fun z=>nF (z▸f)⟩ cJ (fun a m=>nomatch m) (fun a m=>nomatch m) (fun a m=>nomatch m) (fun a m=>nomatch m) (fun a m=>nomatch m) (fun _ e=>nomatch e) hg ho
 exact ⟨e.pl.addr,G',st',y',e2,⟨e,ck hf,rfl⟩,hk⟩
theorem z7 (S:dg W sc env G) (h:cu sc x=true) (hi:bm i x) (st0:St W F'0 G ρ0 s'0) (st:St W F G ρ s) (y:b2 F'0 G ρ0 s'0 F ρ s) {t:T} (r:gu W F s.heap as t v) (nd:as.Nodup) (hn:∀ a∈as,s'0.heap.get? a=none∧¬ F a) :
  wpAny M A (assign (.Name x p) env v) (fun _ s'=>kA W F'0 G ρ0 s'0 F ρ s i (.own false t) as s') E s:=by
 refine wpAny_assign_Name ?_
 obtain ⟨e,hf,_,go⟩:=jQ (M:=M) (A:=A) (E:=E) S h hi st (v:=v)
 refine go fun s' hg ho hk hoth hv=>?_
 have nF:¬ F e.pl.addr:=st.plF e (ck hf)
 have ne:∀ a∈as,a∉bk G ρ∧∀ e∈G,e.pl.addr≠a:=fun a m=>mn st0 y (hn a m).1
 have h0:∀ a∈as,W.h0.get? a=none:=fun a m=>by
  induction q:W.h0.get? a with
  | none=>rfl
  | some o=>have:=st0.world a o q;rw [(hn a m).1] at this;exact nn this
 obtain ⟨G',e1,e2,st',y'⟩:=st.store y.step (as:=as) (sl':=.own false t) hf hk hoth ⟨v,hv,r.mono (fun _ f=>f) fun a o c=>hk a o fun z=>c.elim (fun f=>nF (z▸f)) fun m=>(ne a m).2 e (ck hf) z.symm⟩ nd (fun a m=>(hn a m).2) (fun a m=>(ne a m).2) (fun a m=>(ne a m).1) h0 (fun a m=>(hn a m).1) (fun _ e=>nomatch e) hg ho
 exact ⟨e.pl.addr,G',st',y',e2,⟨e,ck hf,rfl⟩,hk⟩
theorem kA.spost {sl:Slot} {Q:Fl→Env→Prop} (x:kA W F'0 G ρ0 s'0 F ρ s i sl as s') (q:Q .next (ρ.set i sl)):j0 W F'0 G ρ0 s'0 Q .next s':=
 let ⟨L,G',st,y,_,_,_⟩:=x;⟨.next,F,G',_,q,.next,st,y⟩
theorem kA.after {sl:Slot} {Q:Fl→Env→Prop} {Cc:Addr} (x:kA W F'0 G ρ0 s'0 F ρ s i sl as s') (q:Q .next (ρ.set i sl)) (st0:St W F'0 G ρ0 s'0) (pv:iq W F G ρ [Cc]) (nC:s'0.heap.get? Cc=none) (ne:Cc∉as) (hn:s.heap.Ns Cc m) :
  ∃ m,s'.heap.Ns Cc m∧∀ h',Heap.SameBut Cc s'.heap h'→j0 W F'0 G ρ0 s'0 Q .next { s' with heap:=h' }:=by
 obtain ⟨L,G',st,y,ow,⟨e,he,rfl⟩,hk⟩:=x
 obtain ⟨pF,pO,pP,p0⟩:=pv Cc (by simp)
 have hn':s'.heap.Ns Cc m:=by
  obtain ⟨o,es,ep,ho,r⟩:=hn
  exact ⟨o,es,ep,hk _ _ (fun z=>pP e he z.symm) ho,r⟩
 refine ⟨m,hn',fun h' hs=>?_⟩
 have hk':∀ b o,b∉[Cc]→s'.heap.get? b=some o→h'.get? b=some o:=fun b o hb e=>hs.extBut b o (fun z=>hb (by simp [z])) e
 have pv':iq W F G' (ρ.set i sl) [Cc]:=fun a ha=>by
  rw [aV.mp ha]
  refine ⟨pF,fun z=>(ow _ z).elim ne pO,fun e' he' z=>?_,p0⟩
  obtain ⟨e'2,h,_,hp⟩:=wF y.sh he'
  exact pP e'2 h (by rw [hp];exact z)
 exact ⟨.next,F,G',_,q,.next,st.touch (s':={ s' with heap:=h' }) pv' hk',y.touch (s':={ s' with heap:=h' }) (P:=[Cc]) (fun a ha=>by rw [aV.mp ha];exact nC) hk' rfl rfl⟩
theorem cU.val {D Cc:Addr} {t:T} {ρ':Env} {Q:Fl→Env→Prop} (z:cU W F G ρ s K D Cc t F' ρ' s') (st:St W F G ρ s) (S:dg W sc env G) (h:cu sc x=true) (hi:bm i x) (hn:s'.heap.Ns Cc m) (q:Q .next (ρ'.set i (.val t))) :
  wpAny M A (assign (.Name x p) env (.ref D)) (fun _ s''=>∃ m,s''.heap.Ns Cc m∧∀ h',Heap.SameBut Cc s''.heap h'→j0 W F G ρ s Q .next { s'' with heap:=h' }) E s':=by
 obtain ⟨st',y'⟩:=st.adopt z.st z.step (as:=[D]) (fun a ha=>by rw [aV.mp ha];exact z.nD) fun a ha=>z.r.live ha
 refine ax (zF S h hi st' y' z.r.freeze) (fun _ s'' w=>w.after q st ?_ z.nC (by simp) hn) am
 intro a ha
 rw [aV.mp ha]
 obtain ⟨p1,p2,p3,p4⟩:=z.pv Cc (by simp)
 exact ⟨fun f=>f.elim p1 fun q=>z.ne (aV.mp q).symm,p2,p3,p4⟩
theorem cU.own {D Cc:Addr} {t:T} {ρ':Env} {Q:Fl→Env→Prop} (z:cU W F G ρ s K D Cc t F' ρ' s') (st:St W F G ρ s) (S:dg W sc env G) (h:cu sc x=true) (hi:bm i x) (hn:s'.heap.Ns Cc m) (q:Q .next (ρ'.set i (.own false t))) :
  wpAny M A (assign (.Name x p) env (.ref D)) (fun _ s''=>∃ m,s''.heap.Ns Cc m∧∀ h',Heap.SameBut Cc s''.heap h'→j0 W F G ρ s Q .next { s'' with heap:=h' }) E s':=
 ax (z7 S h hi st z.st z.step z.r (by simp) fun a ha=>by rw [aV.mp ha];exact ⟨z.nD,z.fD⟩) (fun _ s'' w=>w.after q st z.pv z.nC (fun m=>z.ne (aV.mp m).symm) hn) am
theorem gB {t v:Expr} {Q:Flow→Shared→Prop} (hb:swapsWithSole [t] v pos.line env=pure false) (hs:swappedStores [t] v env=pure none) (he:(assignEach [t] env).map (·.2)=[assign t env])
  (h:wpAny M A (eval v env) (fun x s₁=>wpAny M A (assign t env x) (fun _ s₂=>Q .next s₂) E s₁) E s):wpAny M A (exec (.Assign [t] v pos) env) Q E s:=by
 rw [arm_exec_Assign]
 refine ac (dJ (ac (wpAny_of_eq hb ?_)))
 rw [av (by decide)]
 refine ac (ax h (fun x s₁ h'1=>?_) am)
 refine ac (wpAny_of_eq hs ?_)
 unfold assignStores
 rw [he]
 refine ac (ax ?_ (fun _ s₂ h'2=>al h'2) am)
 exact h'1
theorem o7 {t v:Expr} {Q:Flow→Shared→Prop} (hb:swapsWithSole [t] v pos.line env=pure true) (he:(assignEach [t] env).map (·.2)=[assign t env])
  (h:wpAny M A (evalThenUse v env (assign t env)) (fun _ s₁=>Q .next s₁) E s):wpAny M A (exec (.Assign [t] v pos) env) Q E s:=by
 rw [arm_exec_Assign]
 refine ac (dJ (ac (wpAny_of_eq hb ?_)))
 rw [au rfl]
 rw [he]
 refine ac (ax ?_ (fun _ s₂ h'2=>al h'2) am)
 exact h
end
section
variable {W:Wd} {C:aC} {n:Nat} {sc:PySem.Scope}
theorem wI (h1:∀ tgt iter ifs,gs=[⟨tgt,iter,ifs,0⟩]→P) (h2:(∀ tgt iter ifs,gs≠[⟨tgt,iter,ifs,0⟩])→P):P:=by
 by_cases h:∃ tgt iter ifs,gs=[⟨tgt,iter,ifs,0⟩]
 ·obtain ⟨a,b,c,e⟩:=h;exact h1 a b c e
 ·exact h2 fun a b c e=>h ⟨a,b,c,e⟩
theorem sN (h:∀ tgt iter ifs,gs≠[⟨tgt,iter,ifs,0⟩]):bA tb sc (.ListComp elt gs scope pos)=b5:=by
 match gs with
 | []=>rfl
 | [⟨tgt,iter,ifs,a⟩]=>
  exact av fun ha=>h tgt iter ifs (by rw [ha])
 | _::_::_=>rfl
theorem sV {k v:Expr} (h:∀ tgt iter ifs,gs≠[⟨tgt,iter,ifs,0⟩]):bA tb sc (.DictComp k v gs scope pos)=b5:=by
 match gs with
 | []=>rfl
 | [⟨tgt,iter,ifs,a⟩]=>
  exact av fun ha=>h tgt iter ifs (by rw [ha])
 | _::_::_=>rfl
theorem AW {ifs:List Expr}:bA tb sc (.ListComp elt [⟨tgt,iter,ifs,0⟩] scope pos)=Af tb sc scope (eQ tb scope tgt) (bf tb sc iter (bA tb sc iter)) (hB tb scope .And ifs) (bA tb scope elt):=
 au rfl
theorem BL {k v:Expr} {ifs:List Expr}:bA tb sc (.DictComp k v [⟨tgt,iter,ifs,0⟩] scope pos)=zM tb sc scope (eQ tb scope tgt) (bf tb sc iter (bA tb sc iter)) (hB tb scope .And ifs) (bA tb scope k) (bA tb scope v):=
 au rfl
inductive At:Expr→Prop
 | l (elt:Expr) (gs:List Comprehension) (scope:PySem.Scope) (pos:Pos):At (.ListComp elt gs scope pos)
 | d (k v:Expr) (gs:List Comprehension) (scope:PySem.Scope) (pos:Pos):At (.DictComp k v gs scope pos)
 | s (elt:Expr) (gs:List Comprehension) (scope:PySem.Scope) (pos:Pos):At (.SetComp elt gs scope pos)
theorem LI {e:Expr} (h:vR e=true):At e:=by
 cases e with
 | ListComp _ _ _ _=>exact .l ..
 | DictComp _ _ _ _ _=>exact .d ..
 | SetComp _ _ _ _=>exact .s ..
 | _=>exact bt h
theorem wj {e:Expr} {sl:T→Slot} (hw:gZ W) (hC:cC W C n) (hx:cu sc x=true) (hi:bm i x) (hc:vR e=true) (hsl:(∀ t,sl t=.val t)∨∀ t,sl t=.own false t)
  {A:Around} {env:PySem.Env} {F:Addr→Prop} {G:List bY} {ρ:Env} {s:Shared} {Q:Fl→Env→Prop} {E:Value→Shared→Prop} (hA:sQ n A) (S:dg W sc env G) (st:St W F G ρ s) (q:bA tb sc e C ρ fun t ρ=>dQ (ρ.get i)∧Q .next (ρ.set i (sl t))) :
  wpAny (model W.prog W.w) A (evalThenUse e env (assign (.Name x p) env)) (fun _ s'=>j0 W F G ρ s Q .next s') E s:=by
 have fin:∀ D Cc t F' ρ' s' m,cU W F G ρ s (fun t ρ=>dQ (ρ.get i)∧Q .next (ρ.set i (sl t))) D Cc t F' ρ' s'→s'.heap.Ns Cc m→
   wpAny (model W.prog W.w) A (assign (.Name x p) env (.ref D)) (fun _ s''=>∃ m,s''.heap.Ns Cc m∧∀ h',Heap.SameBut Cc s''.heap h'→j0 W F G ρ s Q .next { s'' with heap:=h' }) E s':=fun D Cc t F' ρ' s' m z hn=>by
  obtain ⟨_,q⟩:=z.q
  rcases hsl with h | h
  ·rw [h] at q;exact z.val st S hx hi hn q
  ·rw [h] at q;exact z.own st S hx hi hn q
 induction LI hc with
 | l elt gs scope cpos=>
  refine wI (gs:=gs) (fun tgt iter ifs hg=>?_) fun hg=>?_
  ·subst hg
   rw [AW] at q
   unfold evalThenUse
   refine ac (tG hA S st (rM hw hC iter sc) (fun c _=>Op hw hC c scope) (rM hw hC elt scope) q (fun e=>nomatch e) fun u hu=>?_)
   obtain rfl:=az hu
   intro D Cc t F' ρ' s' m z hn
   exact ax (fin D Cc t F' ρ' s' m z hn) (fun _ s'' ⟨m,a,b⟩=>⟨m,a,fun h' hs=>al (b h' hs)⟩) am
  ·rw [sN hg] at q;exact q.elim
 | d k v gs scope cpos=>
  refine wI (gs:=gs) (fun tgt iter ifs hg=>?_) fun hg=>?_
  ·subst hg
   rw [BL] at q
   unfold evalThenUse
   refine ac (ub hw hA S st (rM hw hC iter sc) (fun c _=>Op hw hC c scope) (rM hw hC k scope) (rM hw hC v scope) q (fun e=>nomatch e) fun u hu=>?_)
   obtain rfl:=az hu
   intro D Cc t F' ρ' s' m z hn
   exact ax (fin D Cc t F' ρ' s' m z hn) (fun _ s'' ⟨m,a,b⟩=>⟨m,a,fun h' hs=>al (b h' hs)⟩) am
  ·rw [sV hg] at q;exact q.elim
 | s elt gs scope cpos=>
  exact (show False from q).elim
theorem yc {e:Expr} (hw:gZ W) (hC:cC W C n) (hx:cu sc x=true) (hi:bm i x):mu W C n sc (exec (.Assign [.Name x p] e pos)) (ay i (bA tb sc e)):=by
 intro A env F G ρ s Q E hA S st q
 obtain ⟨b,hb,hb'⟩:=FV (v:=e) (t:=.Name x p) (line:=pos.line) (env:=env)
 induction b with
 | false=>
  refine gB hb (eO (fun _ _ _ e=>nomatch e) fun _ _ e=>nomatch e) rfl (ax (rM hw hC e sc A env F G ρ s _ E hA S st q) (fun v s₁ h'1=>?_) am)
  obtain ⟨t,F'1,ρ1,⟨_,q⟩,st1,y'1,r⟩:=h'1
  exact ax (zF S hx hi st1 y'1 r) (fun _ s₂ z=>z.spost q) am
 | true=>exact o7 hb rfl (wj (sl:=fun t=>.val t) hw hC hx hi (hb' rfl).2 (.inl fun _=>rfl) hA S st q)
theorem Hx {e:Expr} (hw:gZ W) (hC:cC W C n) (hx:cu sc x=true) (hi:bm i x) (hO:sA W C n sc (eval e) (bA tb sc e)):mu W C n sc (exec (.Assign [.Name x p] e pos)) (ii i (bA tb sc e)):=by
 intro A env F G ρ s Q E hA S st q
 obtain ⟨b,hb,hb'⟩:=FV (v:=e) (t:=.Name x p) (line:=pos.line) (env:=env)
 induction b with
 | false=>
  refine gB hb (eO (fun _ _ _ e=>nomatch e) fun _ _ e=>nomatch e) rfl (ax (hO A env F G ρ s _ E hA S st q) (fun v s₁ h'1=>?_) am)
  obtain ⟨t,F'1,ρ1,as,⟨_,q⟩,st1,y'1,r,nd,hn⟩:=h'1
  exact ax (z7 S hx hi st st1 y'1 r nd hn) (fun _ s₂ z=>z.spost q) am
 | true=>exact o7 hb rfl (wj (sl:=fun t=>.own false t) hw hC hx hi (hb' rfl).2 (.inr fun _=>rfl) hA S st q)
theorem yI {t v:Expr} {line:Nat} (h:∀ x p,t≠.Name x p):swapsWithSole [t] v line env=pure false:=by
 obtain ⟨b,hb,hb'⟩:=FV (v:=v) (t:=t) (line:=line) (env:=env)
 induction b with
 | false=>exact hb
 | true=>obtain ⟨⟨x,p,e⟩,_⟩:=hb' rfl;exact absurd e (h x p)
theorem zd {v:Expr} {d:SE} (hv:mR v=false) (he:cX W C n sc (eval v) d) (hes:iN tb sc es=some is):mu W C n sc (exec (.Assign [.Tuple es k p] v pos)) (vY is d):=by
 intro A env F G ρ s Q E hA S st q
 refine gB (yI fun _ _ e=>nomatch e) (eO (fun _ _ _ _=>hv) fun _ _ e=>nomatch e) rfl (ax (he A env F G ρ s _ E hA S st q) (fun v s₁ h'1=>?_) am)
 obtain ⟨t,F'1,ρ1,q,st1,y'1,r⟩:=h'1
 refine ax (u0 (H:=[]) (g:=.many is) hA.handled S (fun _ _ _ _ _ _ _ m=>nomatch m) (fun _ m=>nomatch m) (by show (iN tb sc es).map m8.many=_;rw [hes];rfl) st1 r q) (fun _ s₂ z=>?_) am
 obtain ⟨ρ2,q,st2,y'2⟩:=z
 exact ⟨.next,F'1,G,ρ2,q,.next,st2,y'1.step.trans y'2.step⟩
end
end
section
section
variable {W:Wd} {F:Addr→Prop} {h:Heap}
theorem jG.put {a:Nat} (ha:bm a x) {t:T} (r:VR W F h t v) {hh:Int} {tk:Tok}:∀ {es:List DictEntry},jG W F h fs es→
  jG W F h (Bo fs a t) (match es.findIdx? (·.key.isStr x) with | some i=>es.modify i fun e=>{ e with val:=v } | none=>es++[⟨hh,.str x tk,v⟩]):=by
 induction fs with
 | nil=>intro es q;rw [q.inv0];exact .cons ha rfl r .nil
 | cons p fs ih=>
  intro es q
  obtain ⟨y,u,e,es,hn,hk,qv,rs⟩:=jG.inv (i:=p.1) (t:=p.2) q
  have ih:=ih rs
  rw [List.findIdx?_cons,hk,Ga ha hn]
  show jG W F h (if p.1=a then (p.1,t)::fs else p::Bo fs a t) _
  by_cases z:p.1=a
  ·rw [au z,bp.mpr z]
   exact .cons hn hk r rs
  ·rw [av z,eF.mpr z]
   induction hf:es.findIdx? (·.key.isStr x) with
   | none=>rw [hf] at ih;exact .cons hn hk qv ih
   | some k=>rw [hf] at ih;exact .cons hn hk qv ih
theorem xE {es:List DictEntry} {hh:Int} {tk:Tok}:∃ ep',Obj.putName x hh (.str x tk) v (aL es ep)=aL (match es.findIdx? (·.key.isStr x) with | some i=>es.modify i fun e=>{ e with val:=v } | none=>es++[⟨hh,.str x tk,v⟩]) ep':=by
 rw [Obj.putName_eq]
 unfold Obj.putNameByArray
 dsimp only
 rw [List.findIdx?_toArray]
 induction es.findIdx? (·.key.isStr x) with
 | none=>exact ⟨ep+1,by simp⟩
 | some i=>exact ⟨ep,by simp⟩
end
section
variable {W:Wd} {F:Addr→Prop} {s:Shared} {A:Around} {E:Value→Shared→Prop} {as:List Addr}
theorem jG.len_put {a:Nat} {t:T}:(Bo fs a t).length≤fs.length+1:=by
 induction fs with
 | nil=>exact Nat.le_refl _
 | cons p fs ih=>
  unfold Bo
  split
  ·simp
  ·simp only [eH];lia
set_option tactic.hygienic true in
theorem yB (hw:gZ W) (hk:∀ b o,W.h0.get? b=some o→s.heap.get? b=some o) {o t tv:T} {vo vv:Value} {a:Nat} (ha:bm a x) (hF:∀ b∈as,¬ F b) (r:gu W F s.heap as o vo) (rv:VR W F s.heap tv vv) (e:AG o a tv=some t) :
  wpAny (model W.prog W.w) A (setAttr vo x vv) (fun _ s'=>ge W F as s t vo s') E s:=by
 refine dy e fun p hp e=>ifs e fun hc e=>?_
 have r:=pW hp▸r
 rw [e]
 obtain ⟨c,fs⟩:=p
 cases r with | inst has g g' l rr=>
  rename_i es ad dx ep
  have hc:=cz.mp hc
  have hl:=bI hc.2
  have hf:=fK.mp hc.1
  have K:=hw.cls c (tK hc.1)
  have X:=hw.K.keeps hk
  have I:=vX g g'
  refine set_plain X I K.sa ?_
  refine osa_open (s:={ s with toks:=s.toks+1 }) X I K.po (r:=none) (by unfold takerIn;rw [K.fld a x hf ha];rfl) fun b=>?_
  obtain ⟨cd,hcd,hd⟩:=K.cd
  have L0:=I.at_
  refine ac (al (ac (ac (wpAny_loadPart g (ac (Looks.here (s:={ s with toks:=s.toks+1 }) (looks_clsIn X hcd) ?_))))))
  rw [hd]
  refine al (a:=some dx) (ac (al (ac ?_)))
  unfold nsSet
  refine ac (ac (wpAny_askSetting (al (ac (wpAny_mkText (ac (wpAny_loadPart g' ?_)))))))
  dsimp only
  have c0:(!es.any (·.key.isStr x)&&es.any (·.refKey))=false:=by rw [rr.noRef,Bool.and_false]
  rw [aRefKeyMayBeTheName_at,show (!es.toArray.any (·.key.isStr x)&&es.toArray.any (·.refKey))=false by rw [← Array.any_toList,← Array.any_toList];exact c0]
  refine wpAny_updatePart g' ?_
  have hlen:=jG.len_put (fs:=fs) (a:=a) (t:=tv)
  have hne:ad≠dx:=fun z=>by
   subst z
   rw [g] at g';cases g'
  obtain ⟨ep',hput⟩:=xE (es:=es) (ep:=ep) (x:=x) (hh:=PyData.keyHash W.w.params x) (tk:=s.toks+1) (v:=vv)
  have gn:=li (Obj.putName x (PyData.keyHash W.w.params x) (.str x (s.toks+1)) vv) g' (by rw [hput];rfl)
  have rr':=rr.put ha rv (hh:=PyData.keyHash W.w.params x) (tk:=s.toks+1)
  have hle:=rr'.length
  refine ac (wpAny_lookBehind gn (by rw [hput];exact pastItsLine_dict (by rw [cP,sizeLine_eq,← hle];lia)) ?_)
  refine al ?_
  have sb:Heap.SameBut dx s.heap (s.heap.update dx (Obj.putName x (PyData.keyHash W.w.params x) (.str x (s.toks+1)) vv)):=f6 _ _ _
  have kp:∀ b o,b≠dx→s.heap.get? b=some o→(s.heap.update dx (Obj.putName x (PyData.keyHash W.w.params x) (.str x (s.toks+1)) vv)).get? b=some o:=fun b o hb e=>sb.extBut b o hb e
  subst has
  refine ⟨.inst rfl (kp _ _ hne g) (by rw [← hput];exact gn) (by lia) (rr'.mono (fun _ f=>f) fun b o f e=>kp b o (fun z=>hF b (by rw [z];simp) f) e),fun b o hb e=>kp b o (fun z=>hb (by rw [z];simp)) e,rfl,rfl⟩
end
end
section
section
variable {W:Wd} {C:aC} {n:Nat} {sc:PySem.Scope}
theorem j6 (st:St W F G ρ s) {e:bY} (hf:first G j=some e) {fx:Bool} {t:T} (h:ρ.get j=.own fx t):∀ a∈e.own,¬ F a:=
 fun a m=>st.ownF a ((Fr st hf h).2 a m)
theorem ge.spost {F'0:Addr→Prop} {G'0:List bY} {ρ0:Env} {s'0:Shared} {Q:Fl→Env→Prop} {e:bY} {fx:Bool} {t t':T} (st:St W F G ρ s) (y:eR F'0 G'0 ρ0 s'0 F G ρ s) (hf:first G j=some e) (h:ρ.get j=.own fx t)
  (hv:e.pl.Holds s.heap (some v)) (z:ge W F e.own s t' v s') (q:Q .next (ρ.set j (.own fx t'))):j0 W F'0 G'0 ρ0 s'0 Q .next s':=by
 obtain ⟨h1,h2,h3,h4⟩:=z
 obtain ⟨st',y'⟩:=st.mutate hf h hv h1 h2 h3 h4
 exact ⟨.next,F,G,_,q,.next,st',y.trans y'.step⟩
theorem xR {i v:Expr} {di dv:SE} (ho:cR sc x=true) (hj:bm j x) (hi:cX W C n sc (eval i) di) (hv:cX W C n sc (eval v) dv) :
  mu W C n sc (exec (.Assign [.Subscript (.Name x px) i p] v pos)) (bG j di dv):=by
 intro A env F G ρ s Q E hA S st q
 refine gB (yI fun _ _ e=>nomatch e) (eO (fun _ _ _ e=>nomatch e) fun _ _ e=>nomatch e) rfl (ax (hv A env F G ρ s _ E hA S st q) (fun vv s₁ h'1=>?_) am)
 obtain ⟨tv,F'1,ρ1,⟨hb,q⟩,st1,y'1,rv⟩:=h'1
 obtain ⟨en,hf,ld⟩:=S.loads ho hj
 obtain ⟨v,hv1⟩:=st1.bound hf hb
 rw [arm_assign_Subscript]
 refine ac (b4 (ld hv1 (ac (b4 (ax (hi A env F'1 G ρ1 s₁ _ E hA S st1 q) (fun vi s₂ h'2=>?_) am)))))
 obtain ⟨ti,F'2,ρ2,q,st2,y'2,ri⟩:=h'2
 have lk:=st2.look hf
 induction hsl:ρ2.get j with
 | unb=>rw [hsl] at q;exact q.elim
 | val t=>rw [hsl] at q;exact q.elim
 | own fx to=>
  rw [hsl] at q lk
  obtain ⟨to',he,q⟩:=aW q
  obtain ⟨v',hv2,r⟩:=lk
  have hvv:v=v':=az ((hv1.keep fun o=>y'2.pl en (ck hf) o).inj hv2)
  subst hvv
  refine ac (dJ (ac (b4 (ax (yG (by have:=hA.u;lia) (j6 st2 hf hsl) r ri (y'2.step.vr st1 rv) he) (fun _ s'3 z=>?_) am))))
  exact lL (z.spost st2 (y'1.trans y'2).step hf hsl hv2 q)
theorem xt (hw:gZ W) {a:Str} {v:Expr} {dv:SE} (ho:cR sc x=true) (hj:bm j x) (hk:bm k a) (hv:cX W C n sc (eval v) dv) :
  mu W C n sc (exec (.Assign [.Attribute (.Name x px) a p] v pos)) (aF j k dv):=by
 intro A env F G ρ s Q E hA S st q
 refine gB (yI fun _ _ e=>nomatch e) (eO (fun _ _ _ e=>nomatch e) fun _ _ e=>nomatch e) rfl (ax (hv A env F G ρ s _ E hA S st q) (fun vv s₁ h'1=>?_) am)
 obtain ⟨tv,F'1,ρ1,q,st1,y'1,rv⟩:=h'1
 obtain ⟨en,hf,ld⟩:=S.loads ho hj
 have lk:=st1.look hf
 induction hsl:ρ1.get j with
 | unb=>rw [hsl] at q;exact q.elim
 | val t=>rw [hsl] at q;exact q.elim
 | own fx to=>
  rw [hsl] at q lk
  obtain ⟨to',he,q⟩:=aW q
  obtain ⟨v',hv2,r⟩:=lk
  rw [arm_assign_Attribute]
  refine ac (b4 (ld hv2 (ac (dJ (ac (b4 (ax (yB hw st1.world hk (j6 st1 hf hsl) r rv he) (fun _ s'3 z=>?_) am)))))))
  exact lL (z.spost st1 y'1.step hf hsl hv2 q)
theorem fU (S:dg W sc env G):interactive env=false:=by
 unfold interactive
 rw [S.kind];rfl
theorem ia {f:Expr} {Q:Flow→Shared→Prop} (hn:interactive env=false)
  (h:wpAny M A (eval (.Call f args ks p) env) (fun v s₁=>v=.none∧Q .next s₁) E s):wpAny M A (exec (.Expr (.Call f args ks p) pos) env) Q E s:=by
 rw [arm_exec_Expr]
 refine ac (dJ ?_)
 rw [hn,av (by decide)]
 show wpAny _ _ (pure false >>= _) _ _ _
 refine ac (al ?_)
 rw [av (by decide)]
 refine ac (ax h (fun v s₁ h'1=>?_) am)
 obtain ⟨rfl,q⟩:=h'1
 exact al q
theorem ui {xs:List T} {pl:Sem Bool} {Q:Value×List Value→Shared→Prop} (x:dZ W F s.heap (.list xs) v) :
  (Q (.builtin "list.append",[v]) s→wpAny (model W.prog W.w) A (getMethod v "append" pl) Q E s)∧(Q (.builtin "list.extend",[v]) s→wpAny (model W.prog W.w) A (getMethod v "extend" pl) Q E s):=by
 obtain ⟨es,a,ep,rfl,g,_⟩:=x.list_inv
 exact ⟨fun q=>getMethod_builtin ⟨_,g,rfl⟩ PySem.F.plainAttrs_list PySem.F.slot_list_append PySem.F.type_list_append (fun b e=>by cases e;exact ⟨_,g,rfl⟩) q,
  fun q=>getMethod_builtin ⟨_,g,rfl⟩ PySem.F.plainAttrs_list PySem.F.slot_list_extend PySem.F.type_list_extend (fun b e=>by cases e;exact ⟨_,g,rfl⟩) q⟩
theorem xO {sl:Slot} (h:MY sl):∃ fx xs,sl=.own fx (.list xs):=by
 induction sl with
 | own fx t=>cases t<;>first | exact ⟨_,_,rfl⟩ | exact h.elim
 | _=>exact h.elim
theorem Fg {h:Heap} {t:T} (r:gu W F h as t v):∃ a,v=.ref a:=by induction r<;>exact ⟨_,rfl⟩
theorem x9 {e:Expr} {d:SE} (ho:cR sc x=true) (hj:bm j x) (hn:gY [e]=true) (hp:(ap.endLine==p.line)=true) (he:cX W C n sc (eval e) d) :
  mu W C n sc (exec (.Expr (.Call (.Attribute (.Name x px) "append" ap) [e] [] p) pos)) (j8 j d):=by
 intro A env F G ρ s Q E hA S st q
 obtain ⟨hls,q⟩:=q
 obtain ⟨en,hf,ld⟩:=S.loads ho hj
 obtain ⟨fx,xs,hsl⟩:=xO hls
 have lk:=st.look hf
 rw [hsl] at lk
 obtain ⟨v,hv,r⟩:=lk
 refine ia (fU S) (iz rfl hn hp (ld hv fun pl=>(ui r.q).1 ?_))
 have hs:cZ e=true:=by have:=bu hn;simpa using this
 rw [dA hs]
 refine Cn (as:=en.own) (W:=W) (ax (he A env F G ρ s _ E hA S st q) (fun vv s₁ h'1=>?_) am) (Fg r)
 obtain ⟨tv,F'1,ρ1,q,st1,y'1,rv⟩:=h'1
 have lk:=st1.look hf
 induction hsl1:ρ1.get j with
 | unb=>rw [hsl1] at q;exact (show False from q).elim
 | val t=>rw [hsl1] at q;exact (show False from q).elim
 | own fx to=>
  rw [hsl1] at q lk
  obtain ⟨to',he',q⟩:=aW (show fX (IW to tv) _ from q)
  obtain ⟨v',hv2,r'⟩:=lk
  have hvv:v=v':=az ((hv.keep fun o=>y'1.pl en (ck hf) o).inj hv2)
  subst hvv
  exact ⟨F'1,to,tv,to',j6 st1 hf hsl1,r',rv,he',fun s' z=>⟨rfl,z.spost st1 y'1.step hf hsl1 hv2 q⟩⟩
theorem yv {e:Expr} {d:SE} (ho:cR sc x=true) (hj:bm j x) (hn:gY [e]=true) (hp:(ap.endLine==p.line)=true) (he:cX W C n sc (eval e) d) :
  mu W C n sc (exec (.Expr (.Call (.Attribute (.Name x px) "extend" ap) [e] [] p) pos)) (mF j d):=by
 intro A env F G ρ s Q E hA S st q
 obtain ⟨hls,q⟩:=q
 obtain ⟨en,hf,ld⟩:=S.loads ho hj
 obtain ⟨fx,xs,hsl⟩:=xO hls
 have lk:=st.look hf
 rw [hsl] at lk
 obtain ⟨v,hv,r⟩:=lk
 refine ia (fU S) (iz rfl hn hp (ld hv fun pl=>(ui r.q).2 ?_))
 have hs:cZ e=true:=by have:=bu hn;simpa using this
 rw [dA hs]
 refine Bs (as:=en.own) (W:=W) (ax (he A env F G ρ s _ E hA S st q) (fun vv s₁ h'1=>?_) am) (Fg r)
 obtain ⟨tv,F'1,ρ1,q,st1,y'1,rv⟩:=h'1
 have lk:=st1.look hf
 induction hsl1:ρ1.get j with
 | unb=>rw [hsl1] at q;exact (show False from q).elim
 | val t=>rw [hsl1] at q;exact (show False from q).elim
 | own fx to=>
  rw [hsl1] at q lk
  obtain ⟨to',he',q⟩:=aW (show fX (AX to tv) _ from q)
  obtain ⟨v',hv2,r'⟩:=lk
  have hvv:v=v':=az ((hv.keep fun o=>y'1.pl en (ck hf) o).inj hv2)
  subst hvv
  exact ⟨F'1,to,tv,to',j6 st1 hf hsl1,r',rv,he',fun s' z=>⟨rfl,z.spost st1 y'1.step hf hsl1 hv2 q⟩⟩
theorem F8 {f:Expr} {d:SE} (he:cX W C n sc (eval (.Call f args ks p)) d):mu W C n sc (exec (.Expr (.Call f args ks p) pos)) (EG d):=by
 intro A env F G ρ s Q E hA S st q
 refine ia (fU S) (ax (he A env F G ρ s _ E hA S st q) (fun v s₁ h'1=>?_) am)
 obtain ⟨t,F'1,ρ1,q,st1,y'1,r⟩:=h'1
 cases t<;>try (exact (show False from q).elim)
 exact ⟨r.q.none_inv,.next,F'1,G,ρ1,q,.next,st1,y'1.step⟩
end
end
section
inductive Dc (W:Wd) (F:Addr→Prop) (s:Shared) (Q:T→Option T→Prop) (v:Value) (s':Shared):Prop where
 | mk (t:T) (r':Option T) (F':Addr→Prop) (bs:List Addr) (h1:Q t r') (h2:Aw F [] s F' s') (h3:gu W F' s'.heap bs t v) (h4:bs.Nodup) (h5:∀ a∈bs,s.heap.get? a=none∧¬ F' a)
noncomputable def kb (f:Nat):Bool:=match f0 f with | some d=>d.fresh | none=>false
noncomputable def lB (W:Wd) (C:aC) (n:Nat):Prop:=∀ f ts Q A F s vs E,OX n A→f < 79→kb f=true→(∀ b o,W.h0.get? b=some o→s.heap.get? b=some o)→(∀ a,W.F0 a→F a)→(∀ a,F a→∃ o,s.heap.get? a=some o)→
 bR W F s.heap ts vs→C f ts none Q→codeAny (model W.prog W.w) A (.call (.ref (W.fa f)) ⟨vs,[]⟩) (FI E (Dc W F s Q)) s
section
variable {W:Wd} {C:aC} {n:Nat} {sc:PySem.Scope}
theorem DE (h:tb.fresh x=true):∃ i,tb.fn x=some (i,none)∧kb i=true∧tb.cls x=none:=by
 have h:decide (x=("lone_pairs":Str))=true:=h
 have h:=bI h
 subst h
 have:∀ o:Option (Nat×Option Nat),(match o with | some (i,none)=>kb i | _=>false)=true→∃ i,o=some (i,none)∧kb i=true:=fun o h=>by
  match o,h with
  | some (i,none),h=>exact ⟨i,rfl,h⟩
 obtain ⟨i,h1,h2⟩:=this (tb.fn ("lone_pairs":Str)) (by decide +kernel)
 exact ⟨i,h1,h2,by decide +kernel⟩
theorem Br (hw:gZ W) (hF:lB W C n) (hg:cw sc x=true) (hd:(x==("__debug__":Str))=false) (hn:gY args=true) (hi:tb.fn x=some (i,none)) (hfr:kb i=true) (ha:xZ W C n sc args ds) :
  sA W C n sc (eval (.Call (.Name x p) args [] pos)) (aK i ds none):=by
 intro A env F G ρ s Q E hA S st q
 obtain ⟨_,q⟩:=q
 refine Call_Name rfl (S.gets hg hd hw st.world (.inl (hw.fn x i none hi)) ?_)
 refine pY hw (tU hi) (bu hn) (ax (ha pos A env F G ρ s _ E hA S st q) (fun vs s₁ h'1=>?_) am) pos
 obtain ⟨ts,F'1,ρ1,hl,q,st1,y'1,r⟩:=h'1
 refine ⟨st1.world,wpAny_call (codeAny_mono (hF i ts _ A F'1 s₁ vs E hA.c (tU hi) hfr st1.world st1.base st1.live r q) fun rs s₂ z=>?_)⟩
 cases rs with
 | error e=>exact z
 | ok f=>
  cases f with
  | ret v=>
   obtain ⟨t,r',F',bs,q,af,rv,nd,hb⟩:=z
   obtain ⟨st2,y'2⟩:=st1.grow af.grow
   exact ⟨t,F',ρ1,bs,q,st2,y'1.trans y'2,rv,nd,fun a ha=>⟨y'1.step.lives a (hb a ha).1,(hb a ha).2⟩⟩
  | _=>exact z.elim
theorem C0 {o:Option SE} {t:PySem.Env→Sem Value} (h:∀ d,o=some d→sA W C n sc t d):sA W C n sc t (I5 o):=by
 cases o with
 | none=>exact dS
 | some d=>exact h d rfl
theorem zw:CH ("dict":Str)=some .dict:=by
 unfold CH
 rw [av (by decide),av (by decide),av (by decide),av (by decide),au rfl]
theorem FY (hw:gZ W) (hC:cC W C n) (hF:lB W C n) (h:(decide (x=("dict":Str))||tb.fresh x)=true) (sc:PySem.Scope):sA W C n sc (eval (.Call (.Name x px) args ks pos)) (bA tb sc (.Call (.Name x px) args ks pos)):=by
 cases ks with
 | cons k ks=>exact dS
 | nil=>
  rw [mL]
  refine C0 fun d hd=>sD hd fun hc hd=>?_
  obtain ⟨hg,hf,hdb⟩:=t9 hc
  unfold Gg at hd
  rcases Bool.or_eq_true_iff.mp h with h | h
  ·have h:=bI h
   subst h
   rw [show tb.cls ("dict":Str)=none by decide +kernel,show tb.fn ("dict":Str)=none by decide +kernel] at hd
   refine kG hd (fun z _=>absurd z (by decide)) fun hd=>dy hd fun b hb hd=>eU hd fun o ho z=>?_
   obtain rfl:=az (zw.symm.trans hb)
   cases args with
   | nil=>exact nn ho
   | cons a r=>
    cases r with
    | cons=>exact nn ho
    | nil=>
     obtain rfl:=az ho
     exact z▸zc hw hg hdb (cz.mp (bu hf)).1 zw (nI (rM hw hC a sc))
  ·obtain ⟨i,h1,h2,h3⟩:=DE h
   rw [h3,h1] at hd
   exact az hd▸Br hw hF hg hdb hf h1 h2 (kr (bu hf) fun e _=>rM hw hC e sc)
theorem Qh (hw:gZ W) (hC:cC W C n) (hF:lB W C n) {e:Expr} (h:Jm tb e=true) (sc:PySem.Scope):sA W C n sc (eval e) (bA tb sc e):=by
 refine cps fun GG kk=>?_
 cases e with
 | List es pos=>exact kk (qz (fun e _=>rM hw hC e) sc)
 | Dict ks vs pos=>exact kk (wm hw (fun e _=>rM hw hC e) (fun e _=>rM hw hC e) sc)
 | ListComp elt gs scope pos=>exact kk (tJ (rM hw hC elt) (fun g _=>⟨rM hw hC g.iter,fun c _=>Op hw hC c⟩) sc)
 | Call f args ks pos=>
  cases f with
  | Name x px=>exact kk (FY hw hC hF h sc)
  | _=>exact bt h
 | _=>exact bt h
theorem B9 {ow:List Str}:iC tb sc ow []=aj:=rfl
theorem yh {ow:List Str} {s:Stmt} {r:List Stmt}:iC tb sc ow (s::r)=ai (JF tb sc ow s) (iC tb sc ow r):=rfl
theorem mo {o:Option SS} {t:PySem.Env→Sem Flow} (h:∀ d,o=some d→mu W C n sc t d):mu W C n sc t (OG o):=by
 cases o with
 | none=>exact pZ
 | some d=>exact h d rfl
theorem HH (hw:gZ W) (hC:cC W C n) {o:Expr} {m:Str} {d:SS} (h:wD tb sc o m ap p args (fm tb sc args)=some d):mu W C n sc (exec (.Expr (.Call (.Attribute o m ap) args [] p) pos)) d:=by
 refine sD h fun hc h=>dy h fun s hs h=>dy h fun i hi h9=>kg hi fun x px hx ho hj=>?_
 rw [hx]
 have hc:=cz.mp hc
 cases args with
 | nil=>exact nn hs
 | cons a r=>
  cases r with
  | cons=>exact nn hs
  | nil=>
   obtain rfl:=az hs
   exact kG h9 (fun hm z=>by subst hm;exact az z▸x9 ho (dj hj) hc.1 hc.2 (rM hw hC a sc)) fun h=>ifs h fun hm z=>by subst hm;exact z▸yv ho (dj hj) hc.1 hc.2 (rM hw hC a sc)
noncomputable def Nk (W:Wd) (C:aC) (n:Nat) (s:Stmt):Prop:=∀ sc ow,mu W C n sc (exec s) (JF tb sc ow s)
theorem Fk {xs:List Stmt} (H:∀ s∈xs,Nk W C n s) (sc:PySem.Scope) (ow:List Str):mu W C n sc (execs xs) (iC tb sc ow xs):=by
 induction xs with
 | nil=>rw [B9];exact HR
 | cons x xs ih=>rw [yh];exact Dd (H x (.head _) sc ow) (ih fun s m=>H s (.tail _ m))
theorem y9 (hw:gZ W) (hC:cC W C n) (hF:lB W C n) {ts:List Expr} {v:Expr}:Nk W C n (.Assign ts v pos):=by
 intro sc ow
 refine mo fun d h0=>dy h0 fun t ht h=>?_
 clear h0
 obtain rfl:=z8 ht
 unfold NK at h
 cases q1:oT t with
 | some x=>
  rw [q1] at h
  refine sD h fun hx h=>dy h fun i hi h=>mv q1 fun p e=>e▸?_
  exact kG h (fun _ h=>ifs h fun hn z=>z▸Hx hw hC hx (dj hi) (Qh hw hC hF hn sc)) fun z=>az z▸yc hw hC hx (dj hi)
 | none=>
  rw [q1] at h
  cases q2:Fb t with
  | some es=>
   rw [q2] at h
   refine C4 q2 fun a p e=>e▸?_
   by_cases hv:mR v=true
   ·exact nn ((au hv).symm.trans h)
   ·exact eU ((av hv).symm.trans h) fun xs hxs z=>z▸zd (Bool.eq_false_iff.mpr hv) (rM hw hC v sc) hxs
  | none=>
   rw [q2] at h
   cases q3:K0 t with
   | some p=>
    rw [q3] at h
    exact eU h fun j hj z=>kg hj fun x px hx ho hi=>J8 q3 fun pp e=>by
     rw [e,hx,z];exact xR ho (dj hi) (rM hw hC p.2 sc) (rM hw hC v sc)
   | none=>
    rw [q3] at h
    exact dy h fun a ha h=>dy h fun j hj h=>eU h fun k hk z=>kg hj fun x px hx ho hi=>by
     rw [z6 ha,hx,z];exact xt hw ho (dj hi) (dj hk) (rM hw hC v sc)
theorem Eo (hw:gZ W) (hC:cC W C n) {v:Expr}:Nk W C n (.Expr v pos):=by
 intro sc ow
 refine mo fun d h=>dy h fun c hc h=>sD h fun hk h=>?_
 rw [Al hc,List.isEmpty_iff.mp hk]
 cases q1:Ah c.1 with
 | some a=>rw [q1] at h;rw [z6 q1];exact HH hw hC h
 | none=>
  rw [q1] at h
  exact eU h fun x hx z=>by rw [z,Al hc,List.isEmpty_iff.mp hk];exact F8 (rM hw hC _ sc)
theorem It (hw:gZ W) (hC:cC W C n) (hF:lB W C n) (s:Stmt):Nk W C n s:=by
 apply Stmt.rec (motive_1:=fun _=>True) (motive_2:=Nk W C n) (motive_3:=fun _=>True) (motive_4:=fun _=>True) (motive_5:=fun _=>True) (motive_6:=fun _=>True) (motive_7:=fun _=>True) (motive_8:=fun _=>True) (motive_9:=fun _=>True) (motive_10:=fun _=>True) (motive_11:=fun _=>True)
  (motive_12:=fun _=>True) (motive_13:=fun _=>True) (motive_14:=fun _=>True) (motive_15:=fun _=>True)
  (motive_16:=fun _=>True) (motive_17:=fun xs=>∀ x∈xs,Nk W C n x) (motive_18:=fun _=>True) (motive_19:=fun _=>True) (motive_20:=fun _=>True) (motive_21:=fun _=>True) (motive_22:=fun _=>True) (motive_23:=fun _=>True) (motive_24:=fun _=>True) (motive_25:=fun _=>True) (t:=s)
 case Return=>exact fun v pos _ sc ow=>mo fun d h=>eU h fun e he z=>by rw [he,z];exact GI (rM hw hC e sc)
 case Assign=>exact fun ts v pos _ _=>y9 hw hC hF
 case For=>
  intro t i b o pos _ _ hb _ sc ow
  cases o with
  | cons o os=>exact pZ
  | nil=>exact mo fun d h=>eU h fun g hg z=>z▸H3 (rM hw hC i sc) hg (Fk hb sc ow)
 case While=>
  intro t b o pos _ hb _ sc ow
  cases o with
  | cons o os=>exact pZ
  | nil=>exact Cz (Op hw hC t sc) (Fk hb sc ow)
 case If=>exact fun t b o pos _ hb ho sc ow=>J3 (Op hw hC t sc) (Fk hb sc ow) (Fk ho sc ow)
 case Expr=>exact fun v pos _=>Eo hw hC
 case Pass=>exact fun pos sc ow=>E2
 case Continue=>exact fun pos sc ow=>Ev
 all_goals first
  | (intros;trivial)
  | exact fun _ _ h1 h2 x m=>(aU.mp m).elim (fun e=>e▸h1) (h2 x)
  | (intros;exact fun sc ow=>pZ)
theorem HK (hw:gZ W) (hC:cC W C n) (hF:lB W C n) (xs:List Stmt) (sc:PySem.Scope) (ow:List Str):mu W C n sc (execs xs) (iC tb sc ow xs):=Fk (fun s _=>It hw hC hF s) sc ow
end
end
section
structure Fx (f:Nat) (p:Arguments) (b:List Stmt) (sc:PySem.Scope) (ow:List Str) (d:aG) (xs ys:List Str):Prop where
 pl:I3 p xs
 px:dO tb xs=some d.params
 py:dO tb ys=some d.locals
 nd:(xs++ys).Nodup
 body:iC tb sc ow b=d.body
 kind:sc.kind=.function
 co:sc.isCoroutine=false
 gen:sc.isGenerator=false
 nms:∀ x∈xs++ys,sc.names.lookup x=some .local∨sc.names.lookup x=some .cell
 all:∀ x k,sc.names.lookup x=some k→(k=.local∨k=.cell)→x∈xs++ys
 nofree:∀ x,sc.names.lookup x≠some .free
 ref:∀ r,d.ref=some r→r∈d.params
 dfl:d.ref.isNone=true∨gW f=0∨d.dflts=[]
 dl:d.dflts.length≤d.params.length
 fr:d.fresh=true→d.ref=none∧∃ es pe pos,b=[.Return (some (.List es pe)) pos]
noncomputable def w6 (ref:Option Nm):List Nm→List Value→Value→List Value
 | []=>fun us _=>us
 | x::xs=>fun us rv=>if ref=some x then rv::w6 ref xs us rv else match us with
  | u::us=>u::w6 ref xs us rv
  | []=>[]
theorem we {ref:Option Nm} {rv:Value} {xs:List Nm}:∀ {us:List Value},(∀ x∈xs,ref≠some x)→w6 ref xs us rv=us:=by
 induction xs with
 | nil=>exact fun _=>rfl
 | cons x xs ih=>
  intro us h
  refine (av (h x (.head _))).trans ?_
  induction us with
  | nil=>rfl
  | cons u us=>exact aw _ (ih fun y m=>h y (.tail _ m))
theorem H9 {r:Nm} {rv:Value} {xs:List Nm}:∀ {us:List Value},r∈xs→xs.Nodup→us.length+1=xs.length→w6 (some r) xs us rv=us.insertIdx (xs.idxOf r) rv:=by
 induction xs with
 | nil=>intro us h;exact nomatch h
 | cons x xs ih=>
  intro us h nd l
  have nd:=cO.mp nd
  rw [List.idxOf_cons]
  by_cases e:r=x
  ·subst e
   rw [beq_self_eq_true]
   refine (au rfl).trans ?_
   rw [we fun y m e=>nd.1 (by rw [az e];exact m)];rfl
  ·have hm:r∈xs:=(aU.mp h).resolve_left e
   rw [eF.mpr fun q=>e q.symm]
   refine (av (fun q=>e (az q))).trans ?_
   induction us with
   | nil=>exact absurd (List.length_pos_of_mem hm) (Nat.not_lt.mpr (er (Nat.succ.inj l).symm))
   | cons u us=>exact aw _ (ih hm nd.2 (Nat.succ.inj l))
section
variable {W:Wd} {F:Addr→Prop} {h:Heap} {as:List Addr} {rv:Value} {ref:Option Nm}
noncomputable def w3 (W:Wd) (F:Addr→Prop) (h:Heap) (ref:Option Nm) (as:List Addr) (rv:Value) (i:Nm) (v:Value) (s:Slot):Prop:=if ref=some i then v=rv∧∃ t,s=.own true t∧gu W F h as t v else ∃ t,s=.val t∧VR W F h t v
inductive iy (W:Wd) (F:Addr→Prop) (h:Heap) (ref:Option Nm) (as:List Addr) (rv:Value):List Nm→List Value→Env→Prop
 | nil:iy W F h ref as rv [] [] []
 | cons {i:Nm} {v:Value} {s:Slot} {is:List Nm} {vs:List Value} {ρ:Env} (a:w3 W F h ref as rv i v s) (r:iy W F h ref as rv is vs ρ):iy W F h ref as rv (i::is) (v::vs) ((i,s)::ρ)
theorem w3.elim {i:Nm} {s:Slot} (x:w3 W F h ref as rv i v s) (k:ref=some i→v=rv→∀ t,s=.own true t→gu W F h as t v→P) (l:ref≠some i→∀ t,s=.val t→VR W F h t v→P):P:=by
 unfold w3 at x
 by_cases e:ref=some i
 ·rw [au e] at x;obtain ⟨a,t,b,c⟩:=x;exact k e a t b c
 ·rw [av e] at x;obtain ⟨t,b,c⟩:=x;exact l e t b c
theorem r6 {x:Nm} {xs:List Nm} {ts:List T} {r:Option T} (e:ja ref (x::xs) ts r=some ρ) (k:ref=some x→∀ t ρ',r=some t→ja ref xs ts r=some ρ'→ρ=(x,.own true t)::ρ'→P)
  (l:ref≠some x→∀ t ts' ρ',ts=t::ts'→ja ref xs ts' r=some ρ'→ρ=(x,.val t)::ρ'→P):P:=by
 by_cases h:ref=some x
 ·have e:=(show ja ref (x::xs) ts r=_ from au h).symm.trans e
  induction r with
  | none=>exact nn e
  | some t=>exact eU e fun ρ' a b=>k h t ρ' rfl a b
 ·have e:=(show ja ref (x::xs) ts r=_ from av h).symm.trans e
  induction ts with
  | nil=>exact nn e
  | cons t ts=>exact eU e fun ρ' a b=>l h t ts ρ' rfl a b
theorem H7 {r:Option T} (hr:∀ t,r=some t→gu W F h as t rv):∀ {ts:List T} {us:List Value} {ρ:Env},bR W F h ts us→ja ref params ts r=some ρ→iy W F h ref as rv params (w6 ref params us rv) ρ:=by
 induction params with
 | nil=>
  intro ts us ρ q e
  induction ts with
  | nil=>rw [← az e,q.inv0];exact .nil
  | cons=>exact nn e
 | cons x xs ih=>
  intro ts us ρ q e
  refine r6 e (fun hx t ρ' ht hρ z=>?_) fun hx t ts' ρ' ht hρ z=>?_
  ·rw [z,show w6 ref (x::xs) us rv=_ from au hx]
   exact .cons (by unfold w3;rw [au hx];exact ⟨rfl,t,rfl,hr t ht⟩) (ih q hρ)
  ·subst ht
   obtain ⟨v,vs,a,q2⟩:=q.inv
   rw [z,show w6 ref (x::xs) (v::vs) rv=_ from av hx]
   exact .cons (by unfold w3;rw [av hx];exact ⟨_,rfl,a⟩) (ih q2 hρ)
theorem B5 {r:Option T}:∀ {ts:List T} {ρ:Env},ja ref params ts r=some ρ→ts.length+(params.countP fun x=>decide (ref=some x))=params.length:=by
 induction params with
 | nil=>
  intro ts ρ e
  induction ts with
  | nil=>rfl
  | cons=>exact nn e
 | cons x xs ih=>
  intro ts ρ e
  refine r6 e (fun hx t ρ' ht hρ z=>?_) fun hx t ts' ρ' ht hρ z=>?_
  ·rw [List.countP_cons_of_pos (p:=fun x=>decide (ref=some x)) (br hx)]
   exact aw (·+1) (ih hρ)
  ·rw [List.countP_cons_of_neg (p:=fun x=>decide (ref=some x)) (by rw [eK hx];exact bO),ht,eH,eH,Nat.add_right_comm]
   exact aw (·+1) (ih hρ)
theorem Cy {r:Nm} {xs:List Nm}:r∈xs→xs.Nodup→(xs.countP fun x=>decide (some r=some x))=1:=by
 induction xs with
 | nil=>intro h;exact nomatch h
 | cons x xs ih=>
  intro h nd
  have nd:=cO.mp nd
  by_cases e:r=x
  ·rw [List.countP_cons_of_pos (p:=fun x=>decide (some r=some x)) (br (aw some e)),List.countP_eq_zero.mpr fun y m q=>nd.1 (by rw [← e,az (bI q)];exact m)]
  ·rw [List.countP_cons_of_neg (p:=fun x=>decide (some r=some x)) (by rw [eK fun q=>e (az q)];exact bO)]
   exact ih ((aU.mp h).resolve_left e) nd.2
noncomputable def fk (L:Addr) (cs:List (Str×Addr)) (sc:PySem.Scope) (ref:Option Nm) (as:List Addr) (rv:Value) (x:Str) (i:Nm):bY:=
 ⟨i,if sc.names.lookup x=some .cell then .cell ((cs.lookup x).getD 0) else .loc L x,if ref=some i then as else [],rv,as⟩
noncomputable def dI (L:Addr) (cs:List (Str×Addr)) (sc:PySem.Scope) (ref:Option Nm) (as:List Addr) (rv:Value):List Str→List Nm→List bY
 | x::xs,i::is=>fk L cs sc ref as rv x i::dI L cs sc ref as rv xs is
 | _,_=>[]
variable {L:Addr} {cs:List (Str×Addr)} {sc:PySem.Scope}
theorem B7 {ys:List Str} {js:List Nm}:∀ {is:List Nm},xs.length=is.length→dI L cs sc ref as rv (xs++ys) (is++js)=dI L cs sc ref as rv xs is++dI L cs sc ref as rv ys js:=by
 induction xs with
 | nil=>intro is l;rw [eC l.symm];rfl
 | cons x xs ih=>
  intro is l
  induction is with
  | nil=>exact nomatch l
  | cons i is=>exact aw _ (ih (Nat.succ.inj l))
theorem Bk:∀ {is:List Nm},xs.length=is.length→(dI L cs sc ref as rv xs is).length=is.length:=by
 induction xs with
 | nil=>intro is l;rw [eC l.symm];rfl
 | cons x xs ih=>
  intro is l
  induction is with
  | nil=>exact nomatch l
  | cons i is=>exact aw (·+1) (ih (Nat.succ.inj l))
theorem t8 {e:bY}:∀ {is:List Nm},e∈dI L cs sc ref as rv xs is→∃ x i,x∈xs∧e=fk L cs sc ref as rv x i:=by
 induction xs with
 | nil=>intro is h;exact nomatch h
 | cons x xs ih=>
  intro is h
  induction is with
  | nil=>exact nomatch h
  | cons i is=>
   rcases aU.mp h with h | h
   ·exact ⟨x,i,.head _,h⟩
   ·obtain ⟨y,j,m,r⟩:=ih h;exact ⟨y,j,.tail _ m,r⟩
theorem jD (hi:bm i x):∀ {is:List Nm},dO tb xs=some is→x∈xs→first (dI L cs sc ref as rv xs is) i=some (fk L cs sc ref as rv x i):=by
 induction xs with
 | nil=>intro is _ m;exact nomatch m
 | cons y xs ih=>
  intro is h m
  refine gA h fun j js hj hjs z=>?_
  have hj:=dj hj
  rw [z]
  show List.find? _ (fk L cs sc ref as rv y j::_)=some _
  rw [List.find?_cons]
  by_cases e:j=i
  ·rw [show ((fk L cs sc ref as rv y j).nm==i)=true from bp.mpr e,hj.fn (e▸hi),e]
  ·rw [show ((fk L cs sc ref as rv y j).nm==i)=false from eF.mpr e]
   exact ih hjs ((aU.mp m).resolve_left fun z=>e (hj.inj (z▸hi)))
theorem zV {ys:List Str} {js:List Nm}:∀ {is:List Nm},dO tb xs=some is→dO tb ys=some js→dO tb (xs++ys)=some (is++js):=by
 induction xs with
 | nil=>intro is h h';rw [← az h];exact h'
 | cons x xs ih=>
  intro is h h'
  refine gA h fun j ks hj hks z=>?_
  show ((tb.id x).bind fun i=>(dO tb (xs++ys)).map (i::·))=_
  rw [hj,fN,ih hks h',z];rfl
theorem zx:∀ {ks:List Nm},dO tb xs=some ks→j∈ks→∃ y∈xs,bm j y:=by
 induction xs with
 | nil=>intro ks h m;rw [← az h] at m;exact nomatch m
 | cons y ys ih=>
  intro ks h m
  refine gA h fun j' ks' hj' hks' z=>?_
  rw [z] at m
  rcases aU.mp m with rfl | m
  ·exact ⟨y,.head _,dj hj'⟩
  ·obtain ⟨z,hz,q⟩:=ih hks' m;exact ⟨z,.tail _ hz,q⟩
theorem tE:∀ {is:List Nm},dO tb xs=some is→xs.Nodup→is.Nodup:=by
 induction xs with
 | nil=>intro is h _;rw [← az h];exact cJ
 | cons x xs ih=>
  intro is h nd
  have nd:=cO.mp nd
  refine gA h fun j ks hj hks z=>z▸cO.mpr ⟨fun m=>?_,ih hks nd.2⟩
  obtain ⟨y,hy,q⟩:=zx hks m
  exact nd.1 ((dj hj).fn q▸hy)
theorem K5 (hc:∀ {x y:Str},sc.names.lookup x=some .cell→sc.names.lookup y=some .cell→(cs.lookup x).getD 0=(cs.lookup y).getD 0→x=y) (e:(fk L cs sc ref as rv y j).pl=(fk L cs sc ref as rv x i).pl):y=x:=by
 have e:(if sc.names.lookup y=some .cell then dq.cell ((cs.lookup y).getD 0) else .loc L y)=(if sc.names.lookup x=some .cell then dq.cell ((cs.lookup x).getD 0) else .loc L x):=e
 by_cases h1:sc.names.lookup y=some .cell
 ·by_cases h2:sc.names.lookup x=some .cell
  ·rw [au h1,au h2] at e;exact hc h1 h2 (dq.cell.inj e)
  ·rw [au h1,av h2] at e;exact nomatch e
 ·by_cases h2:sc.names.lookup x=some .cell
  ·rw [av h1,au h2] at e;exact nomatch e
  ·rw [av h1,av h2] at e;exact (dq.loc.inj e).2
theorem wo (hc:∀ {x y:Str},sc.names.lookup x=some .cell→sc.names.lookup y=some .cell→(cs.lookup x).getD 0=(cs.lookup y).getD 0→x=y):∀ {is:List Nm},xs.Nodup→((dI L cs sc ref as rv xs is).map (·.pl)).Nodup:=by
 induction xs with
 | nil=>exact fun _=>cJ
 | cons x xs ih=>
  intro is nd
  induction is with
  | nil=>exact cJ
  | cons i is=>
   have nd:=cO.mp nd
   refine cO.mpr ⟨fun m=>?_,ih nd.2⟩
   obtain ⟨e,he,q⟩:=bo.mp m
   obtain ⟨y,j,hy,z⟩:=t8 he
   exact nd.1 (K5 hc (z▸q)▸hy)
noncomputable def yg (h:Heap) (L:Addr) (cs:List (Str×Addr)) (sc:PySem.Scope) (ref:Option Nm) (as:List Addr) (rv:Value) (xs:List Str) (vs:List Value):Prop:=∀ (k:Nat) (x:Str) (v:Value),xs[k]? = some x→vs[k]? = some v→∀ i,(fk L cs sc ref as rv x i).pl.Holds h (some v)
theorem Di (b:iy W F h ref as rv is vs ρ):∀ {xs:List Str},xs.length=is.length→yg h L cs sc ref as rv xs vs→ib W F h (dI L cs sc ref as rv xs is) ρ:=by
 induction b with
 | nil=>intro xs l _;rw [eC l];rfl
 | cons a r ih=>
  intro xs l H
  induction xs with
  | nil=>exact nomatch l
  | cons x xs=>
   refine ⟨rfl,?_,ih (Nat.succ.inj l) fun k x v hx hv=>H (k+1) x v hx hv⟩
   have hp:=H 0 x _ rfl rfl
   exact a.elim (fun hr e t ht r=>by rw [ht];exact ⟨_,hp _,by show gu W F h (if ref=some _ then as else []) t _;rw [au hr];exact r⟩) fun _ t ht r=>by rw [ht];exact ⟨_,hp _,r⟩
theorem DG:(∀ x∈xs,∀ i,(fk L cs sc ref as rv x i).pl.Holds h none)→∀ {is:List Nm},xs.length=is.length→ib W F h (dI L cs sc ref as rv xs is) (is.map fun x=>(x,Slot.unb)):=by
 induction xs with
 | nil=>intro _ is l;rw [eC l.symm];rfl
 | cons x xs ih=>
  intro H is l
  induction is with
  | nil=>exact nomatch l
  | cons i is=>exact ⟨rfl,H x (.head _) i,ih (fun y m=>H y (.tail _ m)) (Nat.succ.inj l)⟩
structure Jq (ref:Option Nm) (as:List Addr) (is:List Nm) (l:List Addr):Prop where
 a:∀ a∈l,a∈as
 b:as.Nodup→l.Nodup
 c:(∀ i∈is,ref≠some i)→l=[]
theorem OO (b:iy W F h ref as rv is vs ρ):∀ {xs:List Str},xs.length=is.length→is.Nodup→Jq ref as is (bk (dI L cs sc ref as rv xs is) ρ):=by
 induction b with
 | nil=>intro xs l _;rw [eC l];exact ⟨(fun a m=>nomatch m),fun _=>cJ,fun _=>rfl⟩
 | @cons i v sl is vs ρ a r ih=>
  intro xs l nd
  induction xs with
  | nil=>exact nomatch l
  | cons x xs=>
   have nd:=cO.mp nd
   have o:=ih (Nat.succ.inj l) nd.2
   show Jq ref as (i::is) (ownOf (fk L cs sc ref as rv x i) sl++bk (dI L cs sc ref as rv xs is) ρ)
   refine a.elim (fun hr _ t ht _=>?_) fun hr t ht _=>?_
   ·rw [o.c fun j m e=>nd.1 (az (hr.symm.trans e)▸m),ht,cj,show ownOf (fk L cs sc ref as rv x i) (.own true t)=as from au hr]
    exact ⟨fun a m=>m,fun n=>n,fun k=>absurd hr (k i (.head _))⟩
   ·rw [ht]
    exact ⟨o.a,o.b,fun k=>o.c fun j m=>k j (.tail _ m)⟩
theorem PZ (b:iy W F h ref as rv is vs ρ):∀ {xs:List Str},xs.length=is.length→yg h L cs sc ref as rv xs vs→rp h (dI L cs sc ref as rv xs is) ρ:=by
 induction b with
 | nil=>intro xs l _;rw [eC l];trivial
 | cons a r ih=>
  intro xs l H
  induction xs with
  | nil=>exact nomatch l
  | cons x xs=>
   refine ⟨?_,ih (Nat.succ.inj l) fun k x v hx hv=>H (k+1) x v hx hv⟩
   exact a.elim (fun hr e t ht r=>by rw [ht];subst e;exact ⟨H 0 x _ rfl rfl _,au hr⟩) fun _ t ht r=>by rw [ht];trivial
end
theorem nq {k:Str→Option NameKind} {bs:List (Str×Value)}:∀ {m:Str→Option Value},x∉bs.map (·.1)→bindL k bs m x=m x∧bindC k bs m x=m x:=by
 induction bs with
 | nil=>exact fun _=>⟨rfl,rfl⟩
 | cons p r ih=>
  intro m h
  obtain ⟨n,v⟩:=p
  have h:=not_or.mp fun k=>h (aU.mpr k)
  have h1:x≠n:=h.1
  unfold bindL bindC
  rw [(ih h.2).1,(ih h.2).2]
  by_cases q:k n=some .local
  ·rw [au q,au q,av h1];exact ⟨rfl,rfl⟩
  ·rw [av q,av q,av h1];exact ⟨rfl,rfl⟩
theorem D8 {k:Str→Option NameKind} {bs:List (Str×Value)}:∀ {m:Str→Option Value},(x,v)∈bs→(bs.map (·.1)).Nodup→(k x=some .local→bindL k bs m x=some v)∧(k x≠some .local→bindC k bs m x=some v):=by
 induction bs with
 | nil=>intro m h;exact nomatch h
 | cons p r ih=>
  intro m h nd
  obtain ⟨n,u⟩:=p
  have nd:=cO.mp nd
  unfold bindL bindC
  rcases aU.mp h with e | h
  ·obtain rfl:x=n:=aw Prod.fst e
   obtain rfl:v=u:=aw Prod.snd e
   rw [(nq nd.1).1,(nq nd.1).2]
   exact ⟨fun hk=>by rw [au hk,au rfl],fun hk=>by rw [av hk,au rfl]⟩
  ·exact ⟨fun hk=>(ih h nd.2).1 hk,fun hk=>(ih h nd.2).2 hk⟩
theorem MU {x:α} {v:β} {xs:List α}:∀ {vs:List β} {k:Nat},xs[k]? = some x→vs[k]? = some v→(x,v)∈xs.zip vs:=by
 induction xs with
 | nil=>intro vs k h;exact nn h
 | cons a xs ih=>
  intro vs k h1 h2
  induction vs with
  | nil=>exact nn h2
  | cons b vs=>
   induction k with
   | zero=>rw [← az h1,← az h2];exact .head _
   | succ k=>exact .tail _ (ih (k:=k) h1 h2)
theorem xg {xs:List α}:∀ {vs:List β},xs.length=vs.length→(xs.zip vs).map (·.1)=xs:=by
 induction xs with
 | nil=>exact fun _=>rfl
 | cons a xs ih=>
  intro vs l
  induction vs with
  | nil=>exact nomatch l
  | cons b vs=>exact aw _ (ih (Nat.succ.inj l))
theorem iy.len {h:Heap} {ref:Option Nm} {rv:Value} (x:iy W F h ref as rv is vs ρ):vs.length=is.length∧ρ.length=is.length:=by
 induction x with
 | nil=>exact ⟨rfl,rfl⟩
 | cons a r ih=>exact ⟨aw (·+1) ih.1,aw (·+1) ih.2⟩
theorem iy.up {h h':Heap} {ref:Option Nm} {rv:Value} (k:∀ b o,h.get? b=some o→h'.get? b=some o) (x:iy W F h ref as rv is vs ρ):iy W F h' ref as rv is vs ρ:=by
 induction x with
 | nil=>exact .nil
 | cons a r ih=>
  refine .cons (a.elim (fun hr e t ht r=>?_) fun hr t ht r=>?_) ih
  ·unfold w3;rw [au hr];exact ⟨e,t,ht,r.mono (fun _ f=>f) fun a o _ e=>k a o e⟩
  ·unfold w3;rw [av hr];exact ⟨t,ht,r.mono (fun _ f=>f) fun a o _ e=>k a o e⟩
structure Jf (W:Wd) (F:Addr→Prop) (as:List Addr) (d:aG) (sc:PySem.Scope) (rv:Value) (env:PySem.Env) (xs ys:List Str) (ρ:Env) (s s₁:Shared):Prop where
 sees:dg W sc env (dI env.locals env.cells sc d.ref as rv (xs++ys) (d.params++d.locals))
 st:St W F (dI env.locals env.cells sc d.ref as rv (xs++ys) (d.params++d.locals)) (ρ++c9 d.locals []) s₁
 keep:∀ b o,s.heap.get? b=some o→s₁.heap.get? b=some o
 gens:s₁.gens=s.gens
 os:s₁.os=s.os
 own:∀ a∈bk (dI env.locals env.cells sc d.ref as rv (xs++ys) (d.params++d.locals)) (ρ++c9 d.locals []),a∈as
 new:∀ e∈dI env.locals env.cells sc d.ref as rv (xs++ys) (d.params++d.locals),s.heap.get? e.pl.addr=none
theorem Fp {f:Nat} {p:Arguments} {ow:List Str} {d:aG} {rv:Value} {ys:List Str} {s₁:Shared} {qual:Str} {fn:Option Addr} {code:Value}
  (S:Fx f p b sc ow d xs ys) (he:env=newEnv sc s.heap.objs.size W.g (cellsFrom (s.heap.objs.size+1) sc.names []) qual fn code none W.b)
  (x:InCallC s env.locals (bindL env.kindOf (xs.zip vals) fun _=>none) env.cells (bindC env.kindOf (xs.zip vals) fun _=>none) s₁)
  (hk:∀ b o,W.h0.get? b=some o→s.heap.get? b=some o) (hF0:∀ a,W.F0 a→F a) (hF:∀ a,F a→∃ o,s.heap.get? a=some o) (nd:as.Nodup) (hn:∀ a∈as,¬ F a∧W.h0.get? a=none) (hl:∀ a∈as,∃ o,s.heap.get? a=some o)
  (B:iy W F s.heap d.ref as rv d.params vals ρ):Jf W F as d sc rv env xs ys ρ s s₁:=by
 have lx:=mO S.px
 have ly:=mO S.py
 have hkind:∀ z,env.kindOf z=sc.names.lookup z:=fun z=>by subst he;rfl
 have hL:env.locals=s.heap.objs.size:=by subst he;rfl
 have hcells:env.cells=cellsFrom (s.heap.objs.size+1) sc.names []:=by subst he;rfl
 have kp:=x.toInCall.keep
 have cell:∀ {z:Str},sc.names.lookup z=some .cell→∃ c,env.cells.lookup z=some c:=fun {z} h=>by
  rw [hcells]
  exact Option.isSome_iff_exists.mp (PySem.W.cellsFrom_some _ _ _ (.inl h))
 have vlen:=B.len
 have zk:(xs.zip vals).map (·.1)=xs:=xg (by rw [vlen.1,lx])
 have ndx:xs.Nodup:=(cF.mp S.nd).1
 have par:yg s₁.heap env.locals env.cells sc d.ref as rv xs vals:=fun k z v hz hv i=>by
  obtain ⟨h1,h2⟩:=D8 (k:=env.kindOf) (m:=fun _=>none) (MU hz hv) (by rw [zk];exact ndx)
  rcases S.nms z (eW _ (List.mem_of_getElem? hz)) with q | q
  ·have e:(fk env.locals env.cells sc d.ref as rv z i).pl=.loc env.locals z:=by unfold fk;rw [q];rfl
   rw [e]
   exact ⟨_,x.toInCall.ns,h1 (by rw [hkind,q])⟩
  ·obtain ⟨c,hc⟩:=cell q
   have e:(fk env.locals env.cells sc d.ref as rv z i).pl=.cell c:=by unfold fk;rw [q,hc];rfl
   rw [e]
   have:=x.cell z c hc
   rw [h2 (by rw [hkind,q];decide)] at this
   exact this
 have loc:∀ z∈ys,∀ i,(fk env.locals env.cells sc d.ref as rv z i).pl.Holds s₁.heap none:=fun z hz i=>by
  have hnx:z∉(xs.zip vals).map (·.1):=by
   rw [zk]
   exact fun m=>(cF.mp S.nd).2.2 z m z hz rfl
  obtain ⟨h1,h2⟩:=nq (k:=env.kindOf) (m:=fun _=>none) hnx
  rcases S.nms z (du _ hz) with q | q
  ·have e:(fk env.locals env.cells sc d.ref as rv z i).pl=.loc env.locals z:=by unfold fk;rw [q];rfl
   rw [e]
   exact ⟨_,x.toInCall.ns,h1⟩
  ·obtain ⟨c,hc⟩:=cell q
   have e:(fk env.locals env.cells sc d.ref as rv z i).pl=.cell c:=by unfold fk;rw [q,hc];rfl
   rw [e]
   have:=x.cell z c hc
   rw [h2] at this
   exact this
 have new:∀ e∈dI env.locals env.cells sc d.ref as rv (xs++ys) (d.params++d.locals),s.heap.get? e.pl.addr=none:=fun e he'=>by
  obtain ⟨z,i,hz,rfl⟩:=t8 he'
  rcases S.nms z hz with q | q
  ·have e:(fk env.locals env.cells sc d.ref as rv z i).pl=.loc env.locals z:=by unfold fk;rw [q];rfl
   rw [e]
   show s.heap.get? env.locals=none
   rw [hL];exact aS _
  ·obtain ⟨c,hc⟩:=cell q
   have e:(fk env.locals env.cells sc d.ref as rv z i).pl=.cell c:=by unfold fk;rw [q,hc];rfl
   rw [e]
   show s.heap.get? c=none
   have:=x.above z c (PySem.mem_of_lookup hc)
   rw [hL] at this
   induction q2:s.heap.get? c with
   | none=>rfl
   | some o=>exact absurd (ei q2) (Nat.not_lt.mpr (Nat.le_of_lt this))
 have hcu:∀ {y z:Str},sc.names.lookup y=some .cell→sc.names.lookup z=some .cell→(env.cells.lookup y).getD 0=(env.cells.lookup z).getD 0→y=z:=fun {y z} h1 h2 e=>by
  obtain ⟨c,hc⟩:=cell h1
  obtain ⟨c',hc'⟩:=cell h2
  rw [hc,hc'] at e
  have e:c=c':=e
  subst e
  exact name_of_addr x.apart (PySem.mem_of_lookup hc) (PySem.mem_of_lookup hc')
 have B'1:=B.up kp
 have G0:dI env.locals env.cells sc d.ref as rv (xs++ys) (d.params++d.locals)=dI env.locals env.cells sc d.ref as rv xs d.params++dI env.locals env.cells sc d.ref as rv ys d.locals:=B7 lx
 have lG:(dI env.locals env.cells sc d.ref as rv xs d.params).length=ρ.length:=by rw [Bk lx,vlen.2]
 have epu:c9 d.locals []=d.locals.map fun x=>(x,Slot.unb):=by unfold c9;rw [cj]
 have e1:=Di (W:=W) (F:=F) B'1 lx par
 have ndp:=tE S.px ndx
 obtain ⟨o1,o2,_⟩:=OO (L:=env.locals) (cs:=env.cells) (sc:=sc) B'1 lx ndp
 have O:bk (dI env.locals env.cells sc d.ref as rv (xs++ys) (d.params++d.locals)) (ρ++c9 d.locals [])=bk (dI env.locals env.cells sc d.ref as rv xs d.params) ρ:=by
  rw [G0,b9 lG,epu,xc,cj]
 have none0:∀ a,s.heap.get? a=none→W.h0.get? a=none:=fun a e=>by
  induction q:W.h0.get? a with
  | none=>rfl
  | some o=>rw [hk a o q] at e;exact nomatch e
 have hids:=zV S.px S.py
 refine ⟨⟨by subst he;exact S.kind,by subst he;rfl,by subst he;rfl,fun z i h hi=>⟨by rw [hkind,h],_,jD hi hids (S.all z _ h (.inl rfl)),by unfold fk;rw [h];rfl⟩,fun z i h hi=>?_,fun z i h hi=>absurd h (S.nofree z),fun z h=>by rw [hkind,h]⟩,
  ⟨?_,fun b o e=>kp b o (hk b o e),hF0,fun a f=>let ⟨o,e⟩:=hF a f;⟨o,kp a o e⟩,wo hcu S.nd,by rw [O];exact o2 nd,by rw [O];exact fun a m=>(hn a (o1 a m)).1,?_,fun e he f=>?_,by rw [O];exact fun a m=>(hn a (o1 a m)).2,fun e he=>none0 _ (new e he),?_⟩,kp,?_,?_,by rw [O];exact o1,new⟩
 ·obtain ⟨c,hc⟩:=cell h
  exact ⟨by rw [hkind,h],_,c,jD hi hids (S.all z _ h (.inr rfl)),by unfold fk;rw [h,hc];rfl,hc⟩
 ·rw [G0]
  exact (cH lG).mpr ⟨e1,by rw [epu];exact DG loc ly⟩
 ·rw [O]
  intro a m e he z
  obtain ⟨o,ho⟩:=hl a (o1 a m)
  rw [← z,new e he] at ho;exact nn ho
 ·obtain ⟨o,ho⟩:=hF _ f
  rw [new e he] at ho;exact nn ho
 ·rw [G0]
  exact (cE lG).mpr ⟨PZ B'1 lx par,by rw [epu];exact zH⟩
 ·obtain ⟨h,tk,e⟩:=x.toInCall.same;rw [e]
 ·obtain ⟨h,tk,e⟩:=x.toInCall.same;rw [e]
theorem St.fixed (x:St W F G ρ s) {n:Nm} {e:bY} (f:first G n=some e) {t:T} (h:ρ.get n=.own true t):gu W F s.heap e.fo t e.fv∧∀ a∈e.fo,¬ F a:=by
 have lk:=x.look f
 have own:=j6 x f h
 obtain ⟨G'1,G'2,ρ1,ρ2,sl,rfl,rfl,hl,hg,hs,hne,_⟩:=x.env.split f
 rw [h] at hg lk;subst hg
 obtain ⟨v,hv,r⟩:=lk
 obtain ⟨h1,h2⟩:=((cE hl).mp x.fix).2.1
 have:v=e.fv:=az (hv.inj h1)
 subst this
 rw [h2] at r own
 exact ⟨r,own⟩
theorem B2:∀ {G':List bY},G'.map bY.sh=G.map bY.sh→∀ i e,first G i=some e→∃ e',first G' i=some e'∧e'.fv=e.fv∧e'.fo=e.fo:=by
 induction G with
 | nil=>intro G' _ i e h;exact nn h
 | cons a G ih=>
  intro G' sh
  induction G' with
  | nil=>exact nomatch sh
  | cons b G'=>
   have h1:=(List.cons.inj sh).1
   intro i e h
   unfold first at h ⊢
   rw [List.find?_cons] at h ⊢
   rw [show b.nm=a.nm from aw (·.1) h1]
   induction q:a.nm==i with
   | true=>rw [q] at h;rw [← az h];exact ⟨b,rfl,aw (·.2.2.1) h1,aw (·.2.2.2) h1⟩
   | false=>rw [q] at h;exact ih (List.cons.inj sh).2 i e h
end
section
noncomputable def En (W:Wd):Prop:=∀ f p b sc,f < 79→W.src f=some (p,b,sc)→∃ d xs ys,f0 f=some d∧Fx f p b sc (W.ow f) d xs ys
section
variable {W:Wd} {n:Nat}
theorem qE.live {h:Heap} {r:Option T} {rv:Option Value} (x:qE W F h as r rv):∀ a∈as,∃ o,h.get? a=some o:=by
 induction r with
 | none=>
  induction rv with
  | none=>intro a m;rw [show as=[] from x] at m;exact nomatch m
  | some v=>exact x.elim
 | some t=>
  induction rv with
  | none=>exact x.elim
  | some v=>exact fun a m=>gu.live x m
theorem DN {p:Nat} {ds:List Value} (h:p=0∨(p≤vs.length∧ds=[])):vs.insertIdx p v++ds=(vs++ds).insertIdx p v:=by
 rcases h with rfl | ⟨_,rfl⟩
 ·simp
 ·simp
theorem qE.none_ {h:Heap} {r:Option T} {rv:Option Value} (x:qE W F h as r rv) (e:r.isSome=false):r=none∧rv=none∧as=[]:=by
 induction r with
 | some t=>exact nomatch e
 | none=>induction rv with
  | none=>exact ⟨rfl,rfl,x⟩
  | some v=>exact x.elim
theorem qE.some_ {h:Heap} {r:Option T} {rv:Option Value} (x:qE W F h as r rv) (e:r.isSome=true):∃ v,rv=some v:=by
 induction r with
 | none=>exact nomatch e
 | some t=>induction rv with
  | none=>exact x.elim
  | some v=>exact ⟨v,rfl⟩
structure J4 (p:Nat) (ref:Option Nm) (params:List Nm) (vs ds:List Value) (rv:Option Value) (np:Nat):Prop where
 e:pN p rv vs++ds.drop (ds.length - (params.length - (pN p rv vs).length))=w6 ref params (vs++ds.drop (ds.length - (np - vs.length))) (rv.getD .none)
 a:(pN p rv vs).length≤params.length
 b:params.length≤(pN p rv vs).length+ds.length
theorem BA {p:Nat} {ds:List Value} (h1:vs.length≤params.length) (h2:params.length≤vs.length+ds.length):J4 p none params vs ds none params.length:=
 ⟨(we (ref:=none) fun _ _ e=>nomatch e).symm,h1,h2⟩
theorem A5 {r0:Nm} {ds:List Value} {np:Nat} (hm:r0∈params) (nd:params.Nodup) (hp:np+1=params.length) (h1:vs.length≤np) (h2:np≤vs.length+ds.length) (hle:params.idxOf r0=0∨(params.idxOf r0≤vs.length∧ds=[])) :
  J4 (params.idxOf r0) (some r0) params vs ds (some v) np:=by
 have hle':params.idxOf r0≤vs.length:=hle.elim (fun q=>q▸cr _) fun q=>q.1
 have il:(vs.insertIdx (params.idxOf r0) v).length=vs.length+1:=by rw [List.length_insertIdx,au hle']
 have il2:(pN (params.idxOf r0) (some v) vs).length=vs.length+1:=il
 refine ⟨?_,by rw [il2,← hp];exact gC h1,by rw [il2,← hp,Nat.add_right_comm];exact gC h2⟩
 rw [il2,← hp,Nat.add_sub_add_right]
 exact (DN (hle.imp id fun q=>⟨q.1,by rw [q.2,List.drop_nil]⟩)).trans (H9 hm nd (by rw [bS,List.length_drop,← hp,Jj h1 h2])).symm
theorem Ju {a d p:Nat} (h:a+(d - (d - (p - a)))=p):a≤p∧p≤a+d:=⟨aI (Nat.le_add_right _ _) (er h),aI (er h.symm) (Nat.add_le_add_left (Nat.sub_le _ _) _)⟩
theorem Kk {a d p:Nat} (h:a+(d - (d - (p - 1 - a)))+1=p):p - 1+1=p∧a≤p - 1∧p - 1≤a+d:=
 have hp:p - 1+1=p:=Nat.sub_add_cancel (aI (Nat.le_add_left 1 _) (er h))
 ⟨hp,Ju (Nat.succ.inj (h.trans hp.symm))⟩
theorem J0 {p a:Nat} (h:i < p) (h2:p - 1≤a):i≤a:=aI (Nat.le_sub_one_of_lt h) h2
set_option backward.match.sparseCases true in
theorem zR (hw:gZ W) {f:Nat} {p:Arguments} {d:aG} {ys:List Str} (K:K9 W f p b sc) (S:Fx f p b sc (W.ow f) d xs ys) (hd:f0 f=some d)
  {A:Around} {F:Addr→Prop} {s:Shared} {ts:List T} {vs:List Value} {r:Option T} {rv:Option Value} {as:List Addr} {R:Result→Shared→Prop} {ρ:Env} (hA:OX (n+1) A)
  (hk:∀ b o,W.h0.get? b=some o→s.heap.get? b=some o) (hF0:∀ a,W.F0 a→F a) (hF:∀ a,F a→∃ o,s.heap.get? a=some o) (hv:bR W F s.heap ts vs) (hr:qE W F s.heap as r rv) (nd:as.Nodup) (hn:∀ a∈as,¬ F a∧W.h0.get? a=none)
  (hrs:d.ref.isSome=r.isSome) (hb:ja d.ref d.params (sd (uK d) ts d.dflts) r=some ρ)
  (go:∀ E env s₁,sQ n (A.deeper env)→Jf W F as d sc (rv.getD .none) env xs ys ρ s s₁→wpAny (model W.prog W.w) (A.deeper env) (execs b env) (fun fl s'=>R (.ok (.ret (match fl with | .ret v=>v | _=>.none))) s') E s₁) :
  codeAny (model W.prog W.w) A (.call (.ref (W.fa f)) ⟨pN (gW f) rv vs,[]⟩) R s:=by
 obtain ⟨o,fd,ho,hfd,hp,hbd,hsc,hcl,hg,hbn,hcd,dr,vrd,hsi⟩:=K.obj
 rw [hd] at vrd
 have vrd:bR W W.F0 W.h0 d.dflts (dr.getD #[]).toList:=vrd
 have vrd':bR W F s.heap d.dflts (dr.getD #[]).toList:=vrd.mono hF0 fun a o _ e=>hk a o e
 have dlen:=vrd.length
 have vlen:=hv.length
 have lx:=mO S.px
 have hR:∀ t,r=some t→gu W F s.heap as t (rv.getD .none):=fun t e=>by
  subst e
  induction rv with
  | none=>exact hr.elim
  | some v=>exact hr
 have blen:=B5 hb
 have VW:bR W F s.heap (sd (uK d) ts d.dflts) (vs++(dr.getD #[]).toList.drop ((dr.getD #[]).toList.length - (uK d - vs.length))):=by
  unfold sd
  rw [← dlen,← vlen]
  exact hv.append (vrd'.drop _)
 have B:=H7 hR VW hb
 have ndp:=tE S.px (cF.mp S.nd).1
 have wlen:(sd (uK d) ts d.dflts).length=ts.length+(d.dflts.length - (d.dflts.length - (uK d - ts.length))):=by
  unfold sd
  rw [bS,List.length_drop]
 rw [wlen] at blen
 have hrefp:∀ r0,d.ref=some r0→gW f=d.params.idxOf r0:=fun r0 hrf=>by
  unfold gW;rw [hd];dsimp only;rw [hrf]
 have same:J4 (gW f) d.ref d.params vs (dr.getD #[]).toList rv (uK d):=by
  unfold uK at blen ⊢
  induction hrf:d.ref with
  | none=>
   rw [hrf] at hrs blen
   rw [(hr.none_ hrs.symm).2.1]
   rw [List.countP_eq_zero.mpr fun y m q=>nomatch bI q] at blen
   have blen:ts.length+(d.dflts.length - (d.dflts.length - (d.params.length - ts.length)))=d.params.length:=blen
   have w:=Ju blen
   exact BA (vlen▸w.1) (vlen▸dlen▸w.2)
  | some r0=>
   have hm:=S.ref r0 hrf
   rw [hrf] at hrs blen
   obtain ⟨v,hv'⟩:=hr.some_ hrs.symm
   rw [hv',hrefp r0 hrf]
   rw [Cy hm ndp] at blen
   have blen:ts.length+(d.dflts.length - (d.dflts.length - (d.params.length - 1 - ts.length)))+1=d.params.length:=blen
   have hlt:=List.idxOf_lt_length_iff.mpr hm
   have w:=Kk blen
   refine A5 hm ndp (np:=d.params.length - 1) w.1 (vlen▸w.2.1) (vlen▸dlen▸w.2.2) ?_
   rcases S.dfl with q | q | q
   ·rw [hrf] at q;exact nomatch q
   ·exact .inl (hrefp r0 hrf▸q)
   ·have l0:d.dflts.length=0:=by rw [q];rfl
    exact .inr ⟨J0 hlt (vlen▸(l0▸w.2.2 :)),eC (dlen.symm.trans l0)⟩
 obtain ⟨s1,s2,s3⟩:=same
 rw [← lx] at s1 s2 s3
 rw [← s1] at B
 refine codeAny_call_function (fd:=fd) (body:=b) (by have:=hA.depth;have:recursionLimit=1000:=rfl;lia) (hk _ _ ho) hfd (by rw [hsc];exact S.co) (by rw [hsc];exact S.gen) hbd ?_ ?_
 ·exact hcd.keeps hk
 refine G1 (xs:=xs) (ds:=(dr.getD #[]).toList) (by rw [hp];exact S.pl) ⟨dr,rfl,fun Q q=>hsi _ _ _ _ _ hk q⟩ s2 s3 (by rw [← dlen,lx];exact S.dl) ?_
 rw [hcl,hsc]
 have Blen:=B.len
 have bz:(xs.zip (pN (gW f) rv vs++(dr.getD #[]).toList.drop ((dr.getD #[]).toList.length - (xs.length - (pN (gW f) rv vs).length)))).map (·.1)=xs:=xg (by rw [Blen.1,lx])
 refine wpAny_newFunctionEnv_cells S.kind (fun x hx=>?_) fun env he s' x=>?_
 ·have:x.1∈xs:=by rw [← bz];exact List.mem_map_of_mem hx
  rcases S.nms x.1 (eW _ this) with q | q
  ·exact .inl q
  ·exact .inr ⟨q,PySem.W.cellsFrom_some _ _ _ (.inl q)⟩
 ·rw [hg,hbn] at he
  have hl:∀ a∈as,∃ o,s.heap.get? a=some o:=hr.live
  refine ⟨(hw.lim.keeps hk).keeps x.toInCall.keep,codeAny_func (go _ env s' ⟨hA.handled,?_,?_⟩ (Fp S he x hk hF0 hF nd hn hl B))⟩
  ·have:=hA.depth;show A.depth+1+2*n≤900;lia
  ·have:=hA.units;show A.units+3+20*n≤9000;lia
theorem MZ (hw:gZ W) (hs:En W):∀ n,cC W (ud f0 n) n∧lB W (ud f0 n) n:=by
 intro n
 induction n with
 | zero=>exact ⟨fun f ts r Q A F s vs rv as E hA hf hk hF0 hF hv hr nd hn q=>q.elim,fun f ts Q A F s vs E hA hf hfr hk hF0 hF hv q=>q.elim⟩
 | succ n ih=>
  obtain ⟨hC,hFr⟩:=ih
  constructor
  ·intro f ts r Q A F s vs rv as E hA hf hk hF0 hF hv hr nd hn q
   obtain ⟨d,hd,hrs,q⟩:=aW q
   obtain ⟨ρ,hb,q⟩:=aW q
   obtain ⟨p,b,sc,hsrc,K⟩:=hw.fo f hf
   obtain ⟨d',xs,ys,hd',S⟩:=hs f p b sc hf hsrc
   rw [hd] at hd';obtain rfl:=az hd'
   refine zR hw K S hd hA hk hF0 hF hv hr nd hn hrs hb fun E' env s₁ hA' Bg=>?_
   rw [← S.body] at q
   refine ax (HK hw hC hFr b sc (W.ow f) (A.deeper env) env F _ _ s₁ _ E' hA' Bg.sees Bg.st q) (fun fl s' z=>?_) am
   obtain ⟨fl',F',G',ρ',qf,hfl,st',y⟩:=z
   show zD W F as s rv Q _ s'
   have kp:∀ b o,b∉as→s.heap.get? b=some o→s'.heap.get? b=some o:=fun b o hb e=>y.keep b o (Bg.keep b o e) (fun m=>hb (Bg.own b m)) fun e' he' z=>by rw [← z,Bg.new e' he'] at e;exact nn e
   have none':∀ a,s₁.heap.get? a=none→s.heap.get? a=none:=fun a e=>cI Bg.keep e
   have rr:∃ r',Q (Bz fl') r'∧qE W F' s'.heap as r' rv∧∀ a∈as,¬ F' a:=by
    unfold nZ at qf
    induction hrf:d.ref with
    | none=>
     rw [hrf] at qf hrs
     obtain ⟨_,h2,h3⟩:=hr.none_ hrs.symm
     subst h3;subst h2
     exact ⟨none,qf,rfl,fun a m=>nomatch m⟩
    | some r0=>
     rw [hrf] at qf hrs
     obtain ⟨v,rfl⟩:=hr.some_ hrs.symm
     have hids:=zV S.px S.py
     obtain ⟨z,hz,hzi⟩:=zx hids (eW _ (S.ref r0 hrf))
     have hf0:=jD (L:=env.locals) (cs:=env.cells) (sc:=sc) (ref:=d.ref) (as:=as) (rv:=v) hzi hids hz
     obtain ⟨e',hf',h1,h2⟩:=B2 y.sh _ _ hf0
     have qf:(match ρ'.get r0 with | .own true t=>Q (Bz fl') (some t) | _=>False):=qf
     induction ht:ρ'.get r0 with
     | own fx t=>
      rw [ht] at qf
      induction fx with
      | true=>
       obtain ⟨a1,a2⟩:=st'.fixed hf' ht
       rw [h1,h2] at a1
       rw [h2] at a2
       exact ⟨some t,qf,a1,a2⟩
      | false=>exact qf.elim
     | _=>rw [ht] at qf;exact qf.elim
   obtain ⟨r',q,r1,r2⟩:=rr
   refine ⟨Bz fl',r',F',q,⟨y.gens.trans Bg.gens,y.os.trans Bg.os,kp,y.mono,fun a fa=>?_⟩,?_,r1,r2⟩
   ·rcases y.freshF a fa with h | h | h
    ·exact .inl h
    ·exact .inr ⟨none' a h,st'.live a fa⟩
    ·exact absurd fa (r2 a (Bg.own a h))
   ·induction hfl with
    | ret t v r=>exact r
    | _=>exact .none
  ·intro f ts Q A F s vs E hA hf hfr hk hF0 hF hv q
   obtain ⟨d,hd,hrs,q⟩:=aW q
   obtain ⟨ρ,hb,q⟩:=aW q
   obtain ⟨p,b,sc,hsrc,K⟩:=hw.fo f hf
   obtain ⟨d',xs,ys,hd',S⟩:=hs f p b sc hf hsrc
   rw [hd] at hd';obtain rfl:=az hd'
   have hfr':d.fresh=true:=by unfold kb at hfr;rw [hd] at hfr;exact hfr
   obtain ⟨hrf,es,pe,pos,rfl⟩:=S.fr hfr'
   have e0:vs=pN (gW f) none vs:=rfl
   rw [e0]
   refine zR (as:=[]) (r:=none) (rv:=none) hw K S hd hA hk hF0 hF hv rfl cJ (fun a h=>nomatch h) hrs hb fun E' env s₁ hA' Bg=>?_
   rw [← S.body,hrf] at q
   have q:bA tb sc (.List es pe) (ud f0 n) (ρ++c9 d.locals []) (fun t ρ=>Q t none):=q
   rw [arm_execs_cons]
   refine ac (wpAny_Return_some (ax (qz (W:=W) (C:=ud f0 n) (n:=n) (fun e _=>rM hw hC e) sc (A.deeper env) env F _ _ s₁ _ E' hA' Bg.sees Bg.st q) (fun v s' z=>?_) am))
   obtain ⟨t,F',ρ',bs,q,st',y,r,ndb,hbs⟩:=z
   refine al ?_
   show Dc W F s Q v s'
   have none':∀ a,s₁.heap.get? a=none→s.heap.get? a=none:=fun a e=>cI Bg.keep e
   refine ⟨t,none,F',bs,q,⟨y.step.gens.trans Bg.gens,y.step.os.trans Bg.os,fun b o _ e=>y.step.keep b o (Bg.keep b o e) (fun m=>nomatch Bg.own b m) fun e' he' z=>(by rw [← z,Bg.new e' he'] at e;exact nn e),y.step.mono,fun a fa=>?_⟩,r,ndb,fun a m=>⟨none' a (hbs a m).1,(hbs a m).2⟩⟩
   rcases y.step.freshF a fa with h | h | h
   ·exact .inl h
   ·exact .inr ⟨none' a h,st'.live a fa⟩
   ·exact nomatch Bg.own a h
end
end
section
noncomputable def Qv:List Nat:=[96,143,500,650,734,821,986,1020,1075,1103,1129,1157,1183,1218,682]
noncomputable def QJ:List Nat:=[95,142,499,649,733,820,985,1019,1074,1102,1128,1156,1182,1217,681]
noncomputable def Qy:List Nat:=[74,81,93,114,140,492,497,635,647,726,731,804,811,818,978,983,1004,1017,1046,1072,1093,1100,1121,1126,1147,1154,1175,1180,1201,1215,152,353,368,375,394,399,404,409,473,478,615,620,856,861,875,896,915,936,943,950,964,1031,1229,1236,1243,1250,1255,1262,1269,1274,1281,1288,1293,1298,1303,1308,1313,1318,1325,1332,1337,1344,1351,1356,1363,1368,1373,1378,1383]
noncomputable def OY (c:Nat):Nat:=Qv.getD c 0
noncomputable def xU (f:Nat):Nat:=Qy.getD f 0
noncomputable def zP:Data→Option (Array Value×Nat) | .seq xs n=>some (xs,n) | _=>none
noncomputable def u8:Data→Option FuncData | .func f=>some f | _=>none
noncomputable def EK:Data→Option ClassData | .cls c=>some c | _=>none
noncomputable def NH:Value→Option (Int×Tok) | .int i t=>some (i,t) | _=>none
noncomputable def M5:Value→Option (PySem.Str×Tok) | .str i t=>some (i,t) | _=>none
theorem Av {d:Data} {p:Array Value×Nat} (e:zP d=some p):d=.seq p.1 p.2:=by
 induction d with
 | seq a b=>rw [← az e]
 | _=>exact nn e
theorem Ei {d:Data} {p:FuncData} (e:u8 d=some p):d=.func p:=by
 induction d with
 | func a=>exact aw Data.func (az e)
 | _=>exact nn e
theorem H4 {d:Data} {p:ClassData} (e:EK d=some p):d=.cls p:=by
 induction d with
 | cls a=>exact aw Data.cls (az e)
 | _=>exact nn e
theorem JH {d:Value} {p:Int×Tok} (e:NH d=some p):d=.int p.1 p.2:=by
 induction d with
 | int a b=>rw [← az e]
 | _=>exact nn e
theorem F5 {d:Value} {p:PySem.Str×Tok} (e:M5 d=some p):d=.str p.1 p.2:=by
 induction d with
 | str a b=>rw [← az e]
 | _=>exact nn e
noncomputable def jh (i:Nat):PySem.Str:=mX.getD i Str.empty
noncomputable def zY (K:Frag) (ca fi:Nat) (IJ:List Nat) (ms:List (Nat×Nat)):Bool:=
 (clsIn K ca).any (·.hasDict)&&(findIn K (.ref ca) "__getattribute__"==some (some (.builtin "object.__getattribute__")))&&(findIn K (.ref ca) "__getattr__"==some none) &&
 (findIn K (.ref ca) "__setattr__"==some (some (.builtin "object.__setattr__")))&&plainOver K ca&&makesIn K ca&&(findIn K (.ref ca) "__init__"==some (some (.ref fi)))&&(typeIn K (.ref fi)==some (.type "function")) &&
 (findIn K (.ref ca) "__class__"==some (some (.builtin "object.__class__")))&&(mroIn K ca (.type "object")==some true)&&!(Value.ref ca==.ref 682)&&(subIn K (.ref ca) (.ref 682)==some false) &&
 (IJ.all fun a=>findIn K (.ref ca) (jh a)==some none) &&
 (ms.all fun p=>(findIn K (.ref ca) (jh p.1)==some (some (.ref (xU p.2))))&&(typeIn K (.ref (xU p.2))==some (.type "function")))
noncomputable def vn (h:Heap) (x:PySem.Str) (i:Int):Bool:=((h.nsMap mainGlobals x).bind NH).any fun p=>p.1==i
noncomputable def Hb:List String:=["len","sorted","abs","all","isinstance"]
noncomputable def GD:List String:=["tuple","list","dict","set","int","range"]
noncomputable abbrev Qb:=Arguments×FuncBody×PySem.Scope
noncomputable def zG (n:PySem.Str):List Stmt→Option (Arguments×List Stmt×PySem.Scope)
 | []=>none
 | .FunctionDef m a b _ _ _ sc _ _ _::r=>if m=n then some (a,b,sc) else zG n r
 | _::r=>zG n r
noncomputable def uJ (n:PySem.Str):List Stmt→List Stmt
 | []=>[]
 | .ClassDef m _ _ b _ _ _ _ _ _ _::r=>if m=n then b else uJ n r
 | _::r=>uJ n r
noncomputable def M3:List (Nat×Nat×PySem.Str):=[(0,0,"__init__"),(1,0,"glyph"),(2,0,"told"),(3,1,"__init__"),(4,1,"told"),(5,2,"__init__"),(6,2,"told"),(7,3,"__init__"),(8,3,"told"),(9,4,"__init__"),(10,4,"told"),(11,5,"__init__"),(12,5,"told"),(13,5,"is_nothing"),(14,6,"__init__"),(15,6,"told"),(16,7,"__init__"),(17,7,"told"),(18,8,"__init__"),(19,8,"told"),(20,9,"__init__"),(21,9,"told"),(22,10,"__init__"),(23,10,"told"),(24,11,"__init__"),(25,11,"told"),(26,12,"__init__"),(27,12,"told"),(28,13,"__init__"),(29,13,"told")]
noncomputable def yN (f:Nat):Option (Arguments×List Stmt×PySem.Scope):=match dz M3 f with
 | some (c,m)=>(match dz jp c with | some n=>zG m (uJ n PySem.Challenge.pw_nz0119_01.main.body) | none=>none)
 | none=>(match dz iL f with | some n=>zG n PySem.Challenge.pw_nz0119_01.main.body | none=>none)
end
section
noncomputable def PB (ow:List PySem.Str) (o:Option (Arguments×List Stmt×PySem.Scope)):SS:=match o with
 | some (_,b,sc)=>iC tb sc ow b
 | none=>ua
noncomputable def OQ:List (Nat×List PySem.Str):=[(31,[Str.ofString "found"]),(34,[Str.ofString "steps"]),(35,[Str.ofString "line",Str.ofString "seen"]),(36,[Str.ofString "held"]),(39,[Str.ofString "found"]),(44,[Str.ofString "mapping"]),(45,[Str.ofString "sets"]),(46,[Str.ofString "pairs"]),(56,[Str.ofString "found"]),(57,[Str.ofString "table"]),(58,[Str.ofString "found"]),(60,[Str.ofString "found"]),(61,[Str.ofString "found"]),(67,[Str.ofString "features"]),(68,[Str.ofString "found"]),(73,[Str.ofString "rows"]),(74,[Str.ofString "sets"]),(78,[Str.ofString "pen"])]
noncomputable def OM (f:Nat):List PySem.Str:=(dz OQ f).getD []
noncomputable def aM (f:Nat):Prop:=some (PB (OM f) (yN f))=(f0 f).map (·.body)
noncomputable def Mq (P:Nat→Prop):Nat→Prop
 | 0=>True
 | n+1=>Mq P n∧P n
theorem G9 {P:Nat→Prop} {f:Nat} (h:Mq P n) (l:f < n):P f:=by
 induction n with
 | zero=>exact absurd l (Nat.not_lt_zero _)
 | succ n ih=>exact (Nat.lt_succ_iff_lt_or_eq.mp l).elim (ih h.1) fun e=>e▸h.2
theorem OJ:aM 0:=by exact rfl
theorem N9:aM 1:=by exact rfl
theorem Nw:aM 2:=by exact rfl
theorem Oo:aM 3:=by exact rfl
theorem OI:aM 4:=by exact rfl
theorem OE:aM 5:=by exact rfl
theorem N2:aM 6:=by exact rfl
theorem Nt:aM 7:=by exact rfl
theorem Om:aM 8:=by exact rfl
theorem OT:aM 9:=by exact rfl
theorem MC:aM 10:=by exact rfl
theorem MS:aM 11:=by exact rfl
theorem LM:aM 12:=by exact rfl
theorem Kd:aM 13:=by exact rfl
theorem Kp:aM 14:=by exact rfl
theorem M6:aM 15:=by exact rfl
theorem Ms:aM 16:=by exact rfl
theorem M0:aM 17:=by exact rfl
theorem JV:aM 18:=by exact rfl
theorem KH:aM 19:=by exact rfl
theorem Lr:aM 20:=by exact rfl
theorem JQ:aM 21:=by exact rfl
theorem MH:aM 22:=by exact rfl
theorem JU:aM 23:=by exact rfl
theorem Mi:aM 24:=by exact rfl
theorem KX:aM 25:=by exact rfl
theorem Ky:aM 26:=by exact rfl
theorem LD:aM 27:=by exact rfl
theorem JL:aM 28:=by exact rfl
theorem KB:aM 29:=by exact rfl
theorem Lp:aM 30:=by exact rfl
theorem Kb:aM 31:=by exact rfl
theorem K6:aM 32:=by exact rfl
theorem Mk:aM 33:=by exact rfl
theorem Ml:aM 34:=by exact rfl
theorem Md:aM 35:=by exact rfl
theorem LO:aM 36:=by exact rfl
theorem JW:aM 37:=by exact rfl
theorem Kc:aM 38:=by exact rfl
theorem MN:aM 39:=by exact rfl
theorem MR:aM 40:=by exact rfl
theorem KR:aM 41:=by exact rfl
theorem Ki:aM 42:=by exact rfl
theorem LT:aM 43:=by exact rfl
theorem Mv:aM 44:=by exact rfl
theorem LK:aM 45:=by exact rfl
theorem Li:aM 46:=by exact rfl
theorem J2:aM 47:=by exact rfl
theorem Kn:aM 48:=by exact rfl
theorem KQ:aM 49:=by exact rfl
theorem J1:aM 50:=by exact rfl
theorem Nf:aM 51:=by exact rfl
theorem KF:aM 52:=by exact rfl
theorem L6:aM 53:=by exact rfl
theorem JT:aM 54:=by exact rfl
theorem K4:aM 55:=by exact rfl
theorem LY:aM 56:=by exact rfl
theorem Na:aM 57:=by exact rfl
theorem Km:aM 58:=by exact rfl
theorem Lv:aM 59:=by exact rfl
theorem Mz:aM 60:=by exact rfl
theorem JR:aM 61:=by exact rfl
theorem M1:aM 62:=by exact rfl
theorem KK:aM 63:=by exact rfl
theorem LN:aM 64:=by exact rfl
theorem Mw:aM 65:=by exact rfl
theorem Lf:aM 66:=by exact rfl
theorem Lg:aM 67:=by exact rfl
theorem Mj:aM 68:=by exact rfl
theorem Lz:aM 69:=by exact rfl
theorem Lq:aM 70:=by exact rfl
theorem MF:aM 71:=by exact rfl
theorem Mx:aM 72:=by exact rfl
theorem LS:aM 73:=by exact rfl
theorem MG:aM 74:=by exact rfl
theorem Kw:aM 75:=by exact rfl
theorem KO:aM 76:=by exact rfl
theorem L7:aM 77:=by exact rfl
theorem Ko:aM 78:=by exact rfl
theorem HI:Mq aM 79:=⟨⟨⟨⟨⟨⟨⟨⟨⟨⟨⟨⟨⟨⟨⟨⟨⟨⟨⟨⟨⟨⟨⟨⟨⟨⟨⟨⟨⟨⟨⟨⟨⟨⟨⟨⟨⟨⟨⟨⟨⟨⟨⟨⟨⟨⟨⟨⟨⟨⟨⟨⟨⟨⟨⟨⟨⟨⟨⟨⟨⟨⟨⟨⟨⟨⟨⟨⟨⟨⟨⟨⟨⟨⟨⟨⟨⟨⟨⟨trivial,OJ⟩,N9⟩,Nw⟩,Oo⟩,OI⟩,OE⟩,N2⟩,Nt⟩,Om⟩,OT⟩,MC⟩,MS⟩,LM⟩,Kd⟩,Kp⟩,M6⟩,Ms⟩,M0⟩,JV⟩,KH⟩,Lr⟩,JQ⟩,MH⟩,JU⟩,Mi⟩,KX⟩,Ky⟩,LD⟩,JL⟩,KB⟩,Lp⟩,Kb⟩,K6⟩,Mk⟩,Ml⟩,Md⟩,LO⟩,JW⟩,Kc⟩,MN⟩,MR⟩,KR⟩,Ki⟩,LT⟩,Mv⟩,LK⟩,Li⟩,J2⟩,Kn⟩,KQ⟩,J1⟩,Nf⟩,KF⟩,L6⟩,JT⟩,K4⟩,LY⟩,Na⟩,Km⟩,Lv⟩,Mz⟩,JR⟩,M1⟩,KK⟩,LN⟩,Mw⟩,Lf⟩,Lg⟩,Mj⟩,Lz⟩,Lq⟩,MF⟩,Mx⟩,LS⟩,MG⟩,Kw⟩,KO⟩,L7⟩,Ko⟩
end
section
noncomputable abbrev Jb (f:Nat) (p:Arguments) (sc:PySem.Scope) (d:aG) (xs ys:List PySem.Str):Prop:=
 p.args.map (·.arg)=xs∧p.posonlyargs.isEmpty=true∧p.kwonlyargs.isEmpty=true∧p.vararg.isNone=true∧p.kwarg.isNone=true∧(xs++ys).Nodup∧dO tb xs=some d.params∧dO tb ys=some d.locals∧
 sc.kind=.function∧sc.isCoroutine=false∧sc.isGenerator=false∧(∀ x∈xs++ys,sc.names.lookup x=some .local∨sc.names.lookup x=some .cell)∧(∀ q∈sc.names,q.2≠.free∧(q.2=.local∨q.2=.cell→q.1∈xs++ys))∧
 (∀ r∈d.ref.toList,r∈d.params)∧(d.ref.isNone=true∨gW f=0∨d.dflts.isEmpty=true)∧d.dflts.length≤d.params.length∧(d.fresh=true→f=54∧d.ref.isNone=true)
noncomputable def N3 (f:Nat) (p:Arguments) (sc:PySem.Scope) (d:aG) (xs ys:List PySem.Str):Bool:=decide (Jb f p sc d xs ys)
noncomputable def Ax (f:Nat):Bool:=((yN f).bind fun q=>(f0 f).map fun d=>N3 f q.1 q.2.2 d (d.params.map jh) (d.locals.map jh)).any id
theorem wJ:(List.range 79).all Ax=true:=by decide +kernel
theorem M2:∃ p es pe pos sc,yN 54=some (p,[.Return (some (.List es pe)) pos],sc):=⟨_,_,_,_,_,rfl⟩
theorem HD {f:Nat} {p:Arguments} {d:aG} (hs:yN f=some (p,b,sc)) (hb:iC tb sc (OM f) b=d.body) {xs ys:List PySem.Str} (h:Jb f p sc d xs ys):Fx f p b sc (OM f) d xs ys:=by
 refine ⟨⟨h.1,List.isEmpty_iff.mp h.2.1,List.isEmpty_iff.mp h.2.2.1,Option.isNone_iff_eq_none.mp h.2.2.2.1,Option.isNone_iff_eq_none.mp h.2.2.2.2.1,(cF.mp h.2.2.2.2.2.1).1⟩,h.2.2.2.2.2.2.1,h.2.2.2.2.2.2.2.1,h.2.2.2.2.2.1,hb,h.2.2.2.2.2.2.2.2.1,h.2.2.2.2.2.2.2.2.2.1,h.2.2.2.2.2.2.2.2.2.2.1,h.2.2.2.2.2.2.2.2.2.2.2.1,fun x k hl hk=>(h.2.2.2.2.2.2.2.2.2.2.2.2.1 _ (eB hl)).2 hk,fun x hl=>(h.2.2.2.2.2.2.2.2.2.2.2.2.1 _ (eB hl)).1 rfl,
  fun r hr=>h.2.2.2.2.2.2.2.2.2.2.2.2.2.1 r (by rw [hr];exact .head _),h.2.2.2.2.2.2.2.2.2.2.2.2.2.2.1.imp id (Or.imp id List.isEmpty_iff.mp),h.2.2.2.2.2.2.2.2.2.2.2.2.2.2.2.1,fun hf=>⟨Option.isNone_iff_eq_none.mp (h.2.2.2.2.2.2.2.2.2.2.2.2.2.2.2.2 hf).2,?_⟩⟩
 have hf:=(h.2.2.2.2.2.2.2.2.2.2.2.2.2.2.2.2 hf).1
 obtain ⟨p,es,pe,pos,sc',e⟩:=M2
 rw [hf,e] at hs
 exact ⟨es,pe,pos,(aw (fun q=>q.2.1) (az hs)).symm⟩
theorem IQ {f:Nat} (hf:f < 79) {p:Arguments} (e:yN f=some (p,b,sc)):∃ d,f0 f=some d∧Fx f p b sc (OM f) d (d.params.map jh) (d.locals.map jh):=by
 have h:=aY.mp wJ f (List.mem_range.mpr hf)
 have hb:=G9 HI hf
 unfold Ax at h
 unfold aM at hb
 rw [e] at h hb
 obtain ⟨x,h,hx⟩:=any_some h
 obtain ⟨d,hd,h⟩:=oK.mp h
 rw [hd] at hb
 exact ⟨d,hd,HD e (az hb) (bI (h.trans hx))⟩
end
section
noncomputable def pp:Program:=cW.toRowW.prog
noncomputable def Ol (c:Nat):List Nat:=lh c::((dz xh c).getD []).map (·.2)
noncomputable def s0 (c:Nat):List Addr:=OY c::QJ.getD c 0::(Ol c).flatMap fun f=>[xU f,xU f - 1]
noncomputable def Ql (f:Nat):List Addr:=match f with | 0=>[69] | 7=>[628] | 18=>[1039] | _=>[]
noncomputable def ph (f:Nat):List Addr:=xU f::(xU f - 1)::Ql f
noncomputable def nh (g:Nat→Obj) (l:List Addr):Frag:=l.map fun a=>(a,g a)
noncomputable def DJ (K:Frag) (c:Nat):Bool:=zY K (OY c) (xU (lh c)) (fields c) ((dz xh c).getD [])
noncomputable def Dj (K:Frag) (a:Nat) (vs:List Value):Bool:=((K.lookup a).bind fun o=>zP o.data).any fun p=>p.1.toList==vs
noncomputable def Qe (K:Frag) (f:Nat) (v:Value):Bool:=if f=0 then (v==.ref 69)&&Dj K 69 [.none] else if f=7 then (v==.ref 628)&&Dj K 628 [.bool false] else if f=18 then (v==.ref 1039)&&Dj K 1039 [.none,.none] else v==.none
noncomputable def Ja (K:Frag) (f:Nat):Bool:=((K.lookup (xU f)).bind fun o=>u8 o.data).any fun fd=>fd.closure.isEmpty&&(fd.globals==mainGlobals)&&(fd.builtins==builtinsNs)&&codeIn K fd.code fd.qualname&&Qe K f fd.defaults
noncomputable def Jv (l:List Value):Bool:=(two l).any fun p=>((M5 p.1).any fun q=>q.1==jh 61)&&(M5 p.2).any fun q=>q.1==jh 62
noncomputable def wc (a:Nat) (o:Obj):Bool:=match a with
 | 682=>(EK o.data).isSome&&(o.cls==.type "type")
 | _=>(zP o.data).any fun p=>(o.cls==.type "tuple")&&o.dict.isNone&&o.slots.isEmpty&&Jv p.1.toList
noncomputable def ju (o:Obj):Bool:=match o.data with | .freed=>false | _=>true
noncomputable def Ec (K:Frag) (c:Nat):Bool:=(K.all fun p=>ju p.2)&&DJ K c
noncomputable def FD (K:Frag) (f:Nat):Bool:=(K.all fun p=>ju p.2)&&Ja K f
noncomputable def jK (cs fs es:List Nat) (g:Nat→Obj):Bool:=(cs.all fun c=>Ec (nh g (s0 c)) c)&&(fs.all fun f=>FD (nh g (ph f)) f)&&es.all fun a=>wc a (g a)
noncomputable def wT (g:Nat→Obj) (f:Nat):Option Qb:=(u8 (g (xU f)).data).map fun fd=>(fd.params,fd.body,fd.scope)
noncomputable def IA (f:Nat):Option Qb:=(yN f).map fun x=>(x.1,.stmts x.2.1,x.2.2)
end
end Nz
namespace Nz
open PySem PySem.W PyProof.Rows
variable {n:Nat}
section
set_option maxHeartbeats 0
noncomputable def Gn (n:Nat) (f:Nat→Obj):Nat→Nat→Nat→BT
 | 0,_,_=>.nil
 | k+1,a,b=>match Nat.blt b n with
  | true=>.node (f b) (Gn n f k (2*a) (a+b)) (Gn n f k (2*a) (2*a+b))
  | false=>.nil
noncomputable def bv (P:Params) (x:String) (t:Nat) (v:Value):DictEntry:=⟨PyData.keyHash P (Str.ofString x),.str (Str.ofString x) t,v⟩
noncomputable def n0 (P:Params):=bv P "__name__" 165 (.str "__main__" 164)
noncomputable def n1 (P:Params):=bv P "__doc__" 166 .none
noncomputable def n2 (P:Params):=bv P "__package__" 167 .none
noncomputable def n3 (P:Params):=bv P "__loader__" 168 (.builtin "__main__.__loader__#opaque")
noncomputable def n4 (P:Params):=bv P "__spec__" 169 .none
noncomputable def n5 (P:Params):=bv P "__annotations__" 170 (.ref 6)
noncomputable def n6 (P:Params):=bv P "__builtins__" 171 (.ref 4)
noncomputable def n7 (P:Params):=bv P "__file__" 173 (.str "/claim/cut.py" 172)
noncomputable def n8 (P:Params):=bv P "__cached__" 174 .none
noncomputable def n9 (P:Params):=bv P "__name__" 165 (.str "joinedhand.charmap" 251)
noncomputable def kQ (P:Params):=bv P "_wall" 193 (.ref 21)
noncomputable def kN (P:Params):=bv P "Variations" 250 (.ref 57)
noncomputable def Qt (P:Params):=bv P "__name__" 165 (.str "joinedhand.classdefs" 304)
noncomputable def lN (P:Params):=bv P "CharMap" 303 (.ref 96)
noncomputable def QK (P:Params):=bv P "__name__" 165 (.str "joinedhand.coverage" 372)
noncomputable def lS (P:Params):=bv P "ClassDef" 365 (.ref 143)
noncomputable def lT (P:Params):=bv P "turned_classes" 371 (.ref 152)
noncomputable def P2 (P:Params):=bv P "__name__" 165 (.str "joinedhand.contexts" 444)
noncomputable def lU (P:Params):=bv P "Coverage" 428 (.ref 190)
noncomputable def mm (P:Params):=bv P "coverage_of" 437 (.ref 201)
noncomputable def mW (P:Params):=bv P "turned_coverage" 443 (.ref 206)
noncomputable def mM (P:Params):=bv P "BY_GLYPHS" 447 (.int 1 446)
noncomputable def m5 (P:Params):=bv P "BY_CLASSES" 449 (.int 2 448)
noncomputable def m7 (P:Params):=bv P "BY_COVERAGES" 451 (.int 3 450)
noncomputable def m6 (P:Params):=bv P "Rule" 500 (.ref 237)
noncomputable def nU (P:Params):=bv P "Contexts" 560 (.ref 278)
noncomputable def O4 (P:Params):=bv P "told_row" 566 (.ref 287)
noncomputable def om (P:Params):=bv P "told_row_contexts" 567 (.ref 287)
noncomputable def m9 (P:Params):=bv P "tests_of" 573 (.ref 292)
noncomputable def Qx (P:Params):=bv P "__name__" 165 (.str "joinedhand.closure" 643)
noncomputable def oF (P:Params):=bv P "rule_tests" 585 (.ref 299)
noncomputable def o4 (P:Params):=bv P "rules_at" 591 (.ref 304)
noncomputable def o5 (P:Params):=bv P "with_lookups" 597 (.ref 309)
noncomputable def oG (P:Params):=bv P "all_in" 606 (.ref 316)
noncomputable def oQ (P:Params):=bv P "cut_by_glyphs" 612 (.ref 321)
noncomputable def oz (P:Params):=bv P "cut_by_classes" 618 (.ref 326)
noncomputable def ou (P:Params):=bv P "cut_by_coverages" 624 (.ref 331)
noncomputable def ox (P:Params):=bv P "cut_context" 632 (.ref 338)
noncomputable def oR (P:Params):=bv P "fits" 642 (.ref 345)
noncomputable def o0 (P:Params):=bv P "CONTEXT_KINDS" 647 (.ref 346)
noncomputable def oZ (P:Params):=bv P "named_lookups" 657 (.ref 353)
noncomputable def oO (P:Params):=bv P "is_met" 663 (.ref 358)
noncomputable def oA (P:Params):=bv P "is_fitted" 669 (.ref 363)
noncomputable def o6 (P:Params):=bv P "made_by_ligature" 675 (.ref 368)
noncomputable def QE (P:Params):=bv P "__name__" 165 (.str "joinedhand.cursive" 755)
noncomputable def pw (P:Params):=bv P "made_by" 685 (.ref 375)
noncomputable def pt (P:Params):=bv P "begun_by" 691 (.ref 380)
noncomputable def pE (P:Params):=bv P "nested_steps" 708 (.ref 387)
noncomputable def pR (P:Params):=bv P "follow_step" 721 (.ref 394)
noncomputable def pK (P:Params):=bv P "follow_all" 727 (.ref 399)
noncomputable def pS (P:Params):=bv P "closure_of" 733 (.ref 404)
noncomputable def pQ (P:Params):=bv P "closure" 739 (.ref 409)
noncomputable def pj (P:Params):=bv P "told_anchor" 748 (.ref 416)
noncomputable def pz (P:Params):=bv P "told_marks" 754 (.ref 421)
noncomputable def Qr (P:Params):=bv P "__name__" 165 (.str "joinedhand.ligature" 814)
noncomputable def qa (P:Params):=bv P "Cursive" 813 (.ref 462)
noncomputable def qg (P:Params):=bv P "begins_with" 823 (.ref 473)
noncomputable def Pu (P:Params):=bv P "__name__" 165 (.str "joinedhand.marks" 865)
noncomputable def q8 (P:Params):=bv P "told_row" 566 (.ref 514)
noncomputable def qC (P:Params):=bv P "live_rows" 829 (.ref 478)
noncomputable def rg (P:Params):=bv P "Ligature" 864 (.ref 500)
noncomputable def qA (P:Params):=bv P "classes_of" 872 (.ref 509)
noncomputable def sn (P:Params):=bv P "told_row_marks" 879 (.ref 514)
noncomputable def qO (P:Params):=bv P "has_anchor" 885 (.ref 519)
noncomputable def sB (P:Params):=bv P "told_by_glyph" 896 (.ref 526)
noncomputable def sF (P:Params):=bv P "MarkBase" 934 (.ref 550)
noncomputable def sX (P:Params):=bv P "MarkComponent" 971 (.ref 576)
noncomputable def Qf (P:Params):=bv P "__name__" 165 (.str "joinedhand.pair" 1010)
noncomputable def um (P:Params):=bv P "MarkMark" 1009 (.ref 604)
noncomputable def un (P:Params):=bv P "pair_told" 1018 (.ref 615)
noncomputable def tS (P:Params):=bv P "moves_second" 1024 (.ref 620)
noncomputable def vC (P:Params):=bv P "PairGlyphs" 1070 (.ref 650)
noncomputable def QF (P:Params):=bv P "__name__" 165 (.str "joinedhand.reverse" 1117)
noncomputable def v8 (P:Params):=bv P "PairClasses" 1116 (.ref 682)
noncomputable def O9 (P:Params):=bv P "__name__" 165 (.str "joinedhand.single" 1158)
noncomputable def xH (P:Params):=bv P "Reverse" 1157 (.ref 708)
noncomputable def xY (P:Params):=bv P "Single" 1194 (.ref 734)
noncomputable def zj (P:Params):=bv P "Multiple" 1229 (.ref 760)
noncomputable def P8 (P:Params):=bv P "__name__" 165 (.str "joinedhand.values" 1265)
noncomputable def zE (P:Params):=bv P "Alternate" 1264 (.ref 786)
noncomputable def A0 (P:Params):=bv P "Value" 1315 (.ref 821)
noncomputable def P9 (P:Params):=bv P "__name__" 165 (.str "joinedhand.cutting" 1351)
noncomputable def CV (P:Params):=bv P "Adjust" 1350 (.ref 847)
noncomputable def CT (P:Params):=bv P "turned_row" 1358 (.ref 856)
noncomputable def CY (P:Params):=bv P "turned_keys" 1364 (.ref 861)
noncomputable def CU (P:Params):=bv P "turned_mapping" 1375 (.ref 868)
noncomputable def CW (P:Params):=bv P "cut_single" 1386 (.ref 875)
noncomputable def C8 (P:Params):=bv P "cut_multiple" 1394 (.ref 882)
noncomputable def Es (P:Params):=bv P "cut_alternate" 1402 (.ref 889)
noncomputable def D0 (P:Params):=bv P "cut_ligature" 1415 (.ref 896)
noncomputable def Df (P:Params):=bv P "cut_reverse" 1421 (.ref 901)
noncomputable def Fm (P:Params):=bv P "cut_adjust" 1429 (.ref 908)
noncomputable def Db (P:Params):=bv P "cut_pair" 1442 (.ref 915)
noncomputable def EJ (P:Params):=bv P "cut_cursive" 1450 (.ref 922)
noncomputable def C2 (P:Params):=bv P "cut_marks" 1460 (.ref 929)
noncomputable def F3 (P:Params):=bv P "cut_substitution" 1469 (.ref 936)
noncomputable def Eb (P:Params):=bv P "cut_position" 1478 (.ref 943)
noncomputable def E0 (P:Params):=bv P "renumbered" 1487 (.ref 950)
noncomputable def D5 (P:Params):=bv P "marked_rows" 1495 (.ref 957)
noncomputable def Qn (P:Params):=bv P "__name__" 165 (.str "joinedhand.font" 1549)
noncomputable def sG (P:Params):=bv P "is_idle" 1503 (.ref 964)
noncomputable def tA (P:Params):=bv P "USE_SET" 1507 (.int 16 1506)
noncomputable def tn (P:Params):=bv P "Lookup" 1548 (.ref 986)
noncomputable def PC (P:Params):=bv P "__name__" 165 (.str "joinedhand.gdef" 1611)
noncomputable def vL (P:Params):=bv P "Font" 1603 (.ref 1020)
noncomputable def uM (P:Params):=bv P "layout_told" 1610 (.ref 1031)
noncomputable def GE (P:Params):=bv P "__name__" 165 (.str "joinedhand.layout" 1681)
noncomputable def xo (P:Params):=bv P "Gdef" 1680 (.ref 1075)
noncomputable def yP (P:Params):=bv P "LangSys" 1720 (.ref 1103)
noncomputable def CI (P:Params):=bv P "Script" 1759 (.ref 1129)
noncomputable def EC (P:Params):=bv P "Feature" 1797 (.ref 1157)
noncomputable def PO (P:Params):=bv P "__name__" 165 (.str "joinedhand.metrics" 1837)
noncomputable def H1 (P:Params):=bv P "Layout" 1836 (.ref 1183)
noncomputable def P3 (P:Params):=bv P "__name__" 165 (.str "joinedhand.mirror" 1906)
noncomputable def JM (P:Params):=bv P "Metrics" 1889 (.ref 1218)
noncomputable def Lb (P:Params):=bv P "advance" 1897 (.ref 1229)
noncomputable def K7 (P:Params):=bv P "bearing" 1905 (.ref 1236)
noncomputable def Lw (P:Params):=bv P "lone_pairs" 1913 (.ref 1243)
noncomputable def Pj (P:Params):=bv P "__name__" 165 (.str "joinedhand.subset" 1935)
noncomputable def OB (P:Params):=bv P "side_rows" 1919 (.ref 1250)
noncomputable def OR (P:Params):=bv P "mirror_pairs" 1925 (.ref 1255)
noncomputable def NJ (P:Params):=bv P "mirror_table" 1934 (.ref 1262)
noncomputable def NQ (P:Params):=bv P "BLANK" 1938 (.int 32 1937)
noncomputable def NO (P:Params):=bv P "wanted_codes" 1948 (.ref 1269)
noncomputable def NA (P:Params):=bv P "cut_variations" 1954 (.ref 1274)
noncomputable def OH (P:Params):=bv P "first_glyphs" 1966 (.ref 1281)
noncomputable def OP (P:Params):=bv P "numbers_of" 1975 (.ref 1288)
noncomputable def Og (P:Params):=bv P "cut_charmap" 1981 (.ref 1293)
noncomputable def Ox (P:Params):=bv P "cut_metrics" 1987 (.ref 1298)
noncomputable def NR (P:Params):=bv P "cut_gdef" 1993 (.ref 1303)
noncomputable def Ow (P:Params):=bv P "cut_lookup" 1999 (.ref 1308)
noncomputable def NX (P:Params):=bv P "moved_lookup" 2005 (.ref 1313)
noncomputable def ND (P:Params):=bv P "cut_layout" 2011 (.ref 1318)
noncomputable def Ph (P:Params):=bv P "__name__" 165 (.str "law_nz0119_01" 2037)
noncomputable def Pl (P:Params):=bv P "cut_kern" 2022 (.ref 1325)
noncomputable def PJ (P:Params):=bv P "kept_glyphs" 2030 (.ref 1332)
noncomputable def Pt (P:Params):=bv P "subset" 2036 (.ref 1337)
noncomputable def PV (P:Params):=bv P "_law_draw" 2051 (.ref 1344)
noncomputable def Px (P:Params):=bv P "_law_layout" 2060 (.ref 1351)
noncomputable def PH (P:Params):=bv P "_law_rows" 2066 (.ref 1356)
noncomputable def PR (P:Params):=bv P "_law_lookup" 2077 (.ref 1363)
noncomputable def PF (P:Params):=bv P "_law_closed" 2083 (.ref 1368)
noncomputable def Po (P:Params):=bv P "_law_left" 2089 (.ref 1373)
noncomputable def Pv (P:Params):=bv P "_law_gsub_holds" 2095 (.ref 1378)
noncomputable def P7 (P:Params):=bv P "law" 2101 (.ref 1383)
noncomputable def Pq (P:Params):List (List DictEntry):=[[n0 P,n1 P,n2 P,n3 P,n4 P,n5 P,n6 P,n7 P,n8 P],
 [n9 P,n1 P,n2 P,n3 P,n4 P,n5 P,n6 P,n7 P,n8 P,kQ P,kN P],
 [Qt P,n1 P,n2 P,n3 P,n4 P,n5 P,n6 P,n7 P,n8 P,kQ P,kN P,lN P],
 [QK P,n1 P,n2 P,n3 P,n4 P,n5 P,n6 P,n7 P,n8 P,kQ P,kN P,lN P,lS P,lT P],
 [P2 P,n1 P,n2 P,n3 P,n4 P,n5 P,n6 P,n7 P,n8 P,kQ P,kN P,lN P,lS P,lT P,lU P,mm P,mW P,mM P],
 [P2 P,n1 P,n2 P,n3 P,n4 P,n5 P,n6 P,n7 P,n8 P,kQ P,kN P,lN P,lS P,lT P,lU P,mm P,mW P,mM P,m5 P,m7 P,m6 P],
 [P2 P,n1 P,n2 P,n3 P,n4 P,n5 P,n6 P,n7 P,n8 P,kQ P,kN P,lN P,lS P,lT P,lU P,mm P,mW P,mM P,m5 P,m7 P,m6 P,nU P,O4 P,om P,m9 P],
 [Qx P,n1 P,n2 P,n3 P,n4 P,n5 P,n6 P,n7 P,n8 P,kQ P,kN P,lN P,lS P,lT P,lU P,mm P,mW P,mM P,m5 P,m7 P,m6 P,nU P,O4 P,om P,m9 P,oF P,o4 P,o5 P,oG P,oQ P,oz P,ou P,ox P,oR P,o0 P,oZ P,oO P,oA P,o6 P],
 [QE P,n1 P,n2 P,n3 P,n4 P,n5 P,n6 P,n7 P,n8 P,kQ P,kN P,lN P,lS P,lT P,lU P,mm P,mW P,mM P,m5 P,m7 P,m6 P,nU P,O4 P,om P,m9 P,oF P,o4 P,o5 P,oG P,oQ P,oz P,ou P,ox P,oR P,o0 P,oZ P,oO P,oA P,o6 P,pw P,pt P,pE P,pR P,pK P,pS P,pQ P,pj P,pz P],
 [Qr P,n1 P,n2 P,n3 P,n4 P,n5 P,n6 P,n7 P,n8 P,kQ P,kN P,lN P,lS P,lT P,lU P,mm P,mW P,mM P,m5 P,m7 P,m6 P,nU P,O4 P,om P,m9 P,oF P,o4 P,o5 P,oG P,oQ P,oz P,ou P,ox P,oR P,o0 P,oZ P,oO P,oA P,o6 P,pw P,pt P,pE P,pR P,pK P,pS P,pQ P,pj P,pz P,qa P,qg P],
 [Pu P,n1 P,n2 P,n3 P,n4 P,n5 P,n6 P,n7 P,n8 P,kQ P,kN P,lN P,lS P,lT P,lU P,mm P,mW P,mM P,m5 P,m7 P,m6 P,nU P,q8 P,om P,m9 P,oF P,o4 P,o5 P,oG P,oQ P,oz P,ou P,ox P,oR P,o0 P,oZ P,oO P,oA P,o6 P,pw P,pt P,pE P,pR P,pK P,pS P,pQ P,pj P,pz P,qa P,qg P,qC P,rg P,qA P,sn P,qO P],
 [Pu P,n1 P,n2 P,n3 P,n4 P,n5 P,n6 P,n7 P,n8 P,kQ P,kN P,lN P,lS P,lT P,lU P,mm P,mW P,mM P,m5 P,m7 P,m6 P,nU P,q8 P,om P,m9 P,oF P,o4 P,o5 P,oG P,oQ P,oz P,ou P,ox P,oR P,o0 P,oZ P,oO P,oA P,o6 P,pw P,pt P,pE P,pR P,pK P,pS P,pQ P,pj P,pz P,qa P,qg P,qC P,rg P,qA P,sn P,qO P,sB P,sF P],
 [Pu P,n1 P,n2 P,n3 P,n4 P,n5 P,n6 P,n7 P,n8 P,kQ P,kN P,lN P,lS P,lT P,lU P,mm P,mW P,mM P,m5 P,m7 P,m6 P,nU P,q8 P,om P,m9 P,oF P,o4 P,o5 P,oG P,oQ P,oz P,ou P,ox P,oR P,o0 P,oZ P,oO P,oA P,o6 P,pw P,pt P,pE P,pR P,pK P,pS P,pQ P,pj P,pz P,qa P,qg P,qC P,rg P,qA P,sn P,qO P,sB P,sF P,sX P],
 [Qf P,n1 P,n2 P,n3 P,n4 P,n5 P,n6 P,n7 P,n8 P,kQ P,kN P,lN P,lS P,lT P,lU P,mm P,mW P,mM P,m5 P,m7 P,m6 P,nU P,q8 P,om P,m9 P,oF P,o4 P,o5 P,oG P,oQ P,oz P,ou P,ox P,oR P,o0 P,oZ P,oO P,oA P,o6 P,pw P,pt P,pE P,pR P,pK P,pS P,pQ P,pj P,pz P,qa P,qg P,qC P,rg P,qA P,sn P,qO P,sB P,sF P,sX P,um P,un P,tS P],
 [Qf P,n1 P,n2 P,n3 P,n4 P,n5 P,n6 P,n7 P,n8 P,kQ P,kN P,lN P,lS P,lT P,lU P,mm P,mW P,mM P,m5 P,m7 P,m6 P,nU P,q8 P,om P,m9 P,oF P,o4 P,o5 P,oG P,oQ P,oz P,ou P,ox P,oR P,o0 P,oZ P,oO P,oA P,o6 P,pw P,pt P,pE P,pR P,pK P,pS P,pQ P,pj P,pz P,qa P,qg P,qC P,rg P,qA P,sn P,qO P,sB P,sF P,sX P,um P,un P,tS P,vC P],
 [QF P,n1 P,n2 P,n3 P,n4 P,n5 P,n6 P,n7 P,n8 P,kQ P,kN P,lN P,lS P,lT P,lU P,mm P,mW P,mM P,m5 P,m7 P,m6 P,nU P,q8 P,om P,m9 P,oF P,o4 P,o5 P,oG P,oQ P,oz P,ou P,ox P,oR P,o0 P,oZ P,oO P,oA P,o6 P,pw P,pt P,pE P,pR P,pK P,pS P,pQ P,pj P,pz P,qa P,qg P,qC P,rg P,qA P,sn P,qO P,sB P,sF P,sX P,um P,un P,tS P,vC P,v8 P],
 [O9 P,n1 P,n2 P,n3 P,n4 P,n5 P,n6 P,n7 P,n8 P,kQ P,kN P,lN P,lS P,lT P,lU P,mm P,mW P,mM P,m5 P,m7 P,m6 P,nU P,q8 P,om P,m9 P,oF P,o4 P,o5 P,oG P,oQ P,oz P,ou P,ox P,oR P,o0 P,oZ P,oO P,oA P,o6 P,pw P,pt P,pE P,pR P,pK P,pS P,pQ P,pj P,pz P,qa P,qg P,qC P,rg P,qA P,sn P,qO P,sB P,sF P,sX P,um P,un P,tS P,vC P,v8 P,xH P],
 [O9 P,n1 P,n2 P,n3 P,n4 P,n5 P,n6 P,n7 P,n8 P,kQ P,kN P,lN P,lS P,lT P,lU P,mm P,mW P,mM P,m5 P,m7 P,m6 P,nU P,q8 P,om P,m9 P,oF P,o4 P,o5 P,oG P,oQ P,oz P,ou P,ox P,oR P,o0 P,oZ P,oO P,oA P,o6 P,pw P,pt P,pE P,pR P,pK P,pS P,pQ P,pj P,pz P,qa P,qg P,qC P,rg P,qA P,sn P,qO P,sB P,sF P,sX P,um P,un P,tS P,vC P,v8 P,xH P,xY P],
 [O9 P,n1 P,n2 P,n3 P,n4 P,n5 P,n6 P,n7 P,n8 P,kQ P,kN P,lN P,lS P,lT P,lU P,mm P,mW P,mM P,m5 P,m7 P,m6 P,nU P,q8 P,om P,m9 P,oF P,o4 P,o5 P,oG P,oQ P,oz P,ou P,ox P,oR P,o0 P,oZ P,oO P,oA P,o6 P,pw P,pt P,pE P,pR P,pK P,pS P,pQ P,pj P,pz P,qa P,qg P,qC P,rg P,qA P,sn P,qO P,sB P,sF P,sX P,um P,un P,tS P,vC P,v8 P,xH P,xY P,zj P],
 [P8 P,n1 P,n2 P,n3 P,n4 P,n5 P,n6 P,n7 P,n8 P,kQ P,kN P,lN P,lS P,lT P,lU P,mm P,mW P,mM P,m5 P,m7 P,m6 P,nU P,q8 P,om P,m9 P,oF P,o4 P,o5 P,oG P,oQ P,oz P,ou P,ox P,oR P,o0 P,oZ P,oO P,oA P,o6 P,pw P,pt P,pE P,pR P,pK P,pS P,pQ P,pj P,pz P,qa P,qg P,qC P,rg P,qA P,sn P,qO P,sB P,sF P,sX P,um P,un P,tS P,vC P,v8 P,xH P,xY P,zj P,zE P],
 [P8 P,n1 P,n2 P,n3 P,n4 P,n5 P,n6 P,n7 P,n8 P,kQ P,kN P,lN P,lS P,lT P,lU P,mm P,mW P,mM P,m5 P,m7 P,m6 P,nU P,q8 P,om P,m9 P,oF P,o4 P,o5 P,oG P,oQ P,oz P,ou P,ox P,oR P,o0 P,oZ P,oO P,oA P,o6 P,pw P,pt P,pE P,pR P,pK P,pS P,pQ P,pj P,pz P,qa P,qg P,qC P,rg P,qA P,sn P,qO P,sB P,sF P,sX P,um P,un P,tS P,vC P,v8 P,xH P,xY P,zj P,zE P,A0 P],
 [P9 P,n1 P,n2 P,n3 P,n4 P,n5 P,n6 P,n7 P,n8 P,kQ P,kN P,lN P,lS P,lT P,lU P,mm P,mW P,mM P,m5 P,m7 P,m6 P,nU P,q8 P,om P,m9 P,oF P,o4 P,o5 P,oG P,oQ P,oz P,ou P,ox P,oR P,o0 P,oZ P,oO P,oA P,o6 P,pw P,pt P,pE P,pR P,pK P,pS P,pQ P,pj P,pz P,qa P,qg P,qC P,rg P,qA P,sn P,qO P,sB P,sF P,sX P,um P,un P,tS P,vC P,v8 P,xH P,xY P,zj P,zE P,A0 P,CV P,CT P,CY P,CU P,CW P],
 [P9 P,n1 P,n2 P,n3 P,n4 P,n5 P,n6 P,n7 P,n8 P,kQ P,kN P,lN P,lS P,lT P,lU P,mm P,mW P,mM P,m5 P,m7 P,m6 P,nU P,q8 P,om P,m9 P,oF P,o4 P,o5 P,oG P,oQ P,oz P,ou P,ox P,oR P,o0 P,oZ P,oO P,oA P,o6 P,pw P,pt P,pE P,pR P,pK P,pS P,pQ P,pj P,pz P,qa P,qg P,qC P,rg P,qA P,sn P,qO P,sB P,sF P,sX P,um P,un P,tS P,vC P,v8 P,xH P,xY P,zj P,zE P,A0 P,CV P,CT P,CY P,CU P,CW P,C8 P,Es P,D0 P,Df P,Fm P,Db P,EJ P,C2 P,F3 P,Eb P,E0 P,D5 P],
 [Qn P,n1 P,n2 P,n3 P,n4 P,n5 P,n6 P,n7 P,n8 P,kQ P,kN P,lN P,lS P,lT P,lU P,mm P,mW P,mM P,m5 P,m7 P,m6 P,nU P,q8 P,om P,m9 P,oF P,o4 P,o5 P,oG P,oQ P,oz P,ou P,ox P,oR P,o0 P,oZ P,oO P,oA P,o6 P,pw P,pt P,pE P,pR P,pK P,pS P,pQ P,pj P,pz P,qa P,qg P,qC P,rg P,qA P,sn P,qO P,sB P,sF P,sX P,um P,un P,tS P,vC P,v8 P,xH P,xY P,zj P,zE P,A0 P,CV P,CT P,CY P,CU P,CW P,C8 P,Es P,D0 P,Df P,Fm P,Db P,EJ P,C2 P,F3 P,Eb P,E0 P,D5 P,sG P,tA P,tn P],
 [PC P,n1 P,n2 P,n3 P,n4 P,n5 P,n6 P,n7 P,n8 P,kQ P,kN P,lN P,lS P,lT P,lU P,mm P,mW P,mM P,m5 P,m7 P,m6 P,nU P,q8 P,om P,m9 P,oF P,o4 P,o5 P,oG P,oQ P,oz P,ou P,ox P,oR P,o0 P,oZ P,oO P,oA P,o6 P,pw P,pt P,pE P,pR P,pK P,pS P,pQ P,pj P,pz P,qa P,qg P,qC P,rg P,qA P,sn P,qO P,sB P,sF P,sX P,um P,un P,tS P,vC P,v8 P,xH P,xY P,zj P,zE P,A0 P,CV P,CT P,CY P,CU P,CW P,C8 P,Es P,D0 P,Df P,Fm P,Db P,EJ P,C2 P,F3 P,Eb P,E0 P,D5 P,sG P,tA P,tn P,vL P,uM P],
 [GE P,n1 P,n2 P,n3 P,n4 P,n5 P,n6 P,n7 P,n8 P,kQ P,kN P,lN P,lS P,lT P,lU P,mm P,mW P,mM P,m5 P,m7 P,m6 P,nU P,q8 P,om P,m9 P,oF P,o4 P,o5 P,oG P,oQ P,oz P,ou P,ox P,oR P,o0 P,oZ P,oO P,oA P,o6 P,pw P,pt P,pE P,pR P,pK P,pS P,pQ P,pj P,pz P,qa P,qg P,qC P,rg P,qA P,sn P,qO P,sB P,sF P,sX P,um P,un P,tS P,vC P,v8 P,xH P,xY P,zj P,zE P,A0 P,CV P,CT P,CY P,CU P,CW P,C8 P,Es P,D0 P,Df P,Fm P,Db P,EJ P,C2 P,F3 P,Eb P,E0 P,D5 P,sG P,tA P,tn P,vL P,uM P,xo P],
 [GE P,n1 P,n2 P,n3 P,n4 P,n5 P,n6 P,n7 P,n8 P,kQ P,kN P,lN P,lS P,lT P,lU P,mm P,mW P,mM P,m5 P,m7 P,m6 P,nU P,q8 P,om P,m9 P,oF P,o4 P,o5 P,oG P,oQ P,oz P,ou P,ox P,oR P,o0 P,oZ P,oO P,oA P,o6 P,pw P,pt P,pE P,pR P,pK P,pS P,pQ P,pj P,pz P,qa P,qg P,qC P,rg P,qA P,sn P,qO P,sB P,sF P,sX P,um P,un P,tS P,vC P,v8 P,xH P,xY P,zj P,zE P,A0 P,CV P,CT P,CY P,CU P,CW P,C8 P,Es P,D0 P,Df P,Fm P,Db P,EJ P,C2 P,F3 P,Eb P,E0 P,D5 P,sG P,tA P,tn P,vL P,uM P,xo P,yP P],
 [GE P,n1 P,n2 P,n3 P,n4 P,n5 P,n6 P,n7 P,n8 P,kQ P,kN P,lN P,lS P,lT P,lU P,mm P,mW P,mM P,m5 P,m7 P,m6 P,nU P,q8 P,om P,m9 P,oF P,o4 P,o5 P,oG P,oQ P,oz P,ou P,ox P,oR P,o0 P,oZ P,oO P,oA P,o6 P,pw P,pt P,pE P,pR P,pK P,pS P,pQ P,pj P,pz P,qa P,qg P,qC P,rg P,qA P,sn P,qO P,sB P,sF P,sX P,um P,un P,tS P,vC P,v8 P,xH P,xY P,zj P,zE P,A0 P,CV P,CT P,CY P,CU P,CW P,C8 P,Es P,D0 P,Df P,Fm P,Db P,EJ P,C2 P,F3 P,Eb P,E0 P,D5 P,sG P,tA P,tn P,vL P,uM P,xo P,yP P,CI P],
 [GE P,n1 P,n2 P,n3 P,n4 P,n5 P,n6 P,n7 P,n8 P,kQ P,kN P,lN P,lS P,lT P,lU P,mm P,mW P,mM P,m5 P,m7 P,m6 P,nU P,q8 P,om P,m9 P,oF P,o4 P,o5 P,oG P,oQ P,oz P,ou P,ox P,oR P,o0 P,oZ P,oO P,oA P,o6 P,pw P,pt P,pE P,pR P,pK P,pS P,pQ P,pj P,pz P,qa P,qg P,qC P,rg P,qA P,sn P,qO P,sB P,sF P,sX P,um P,un P,tS P,vC P,v8 P,xH P,xY P,zj P,zE P,A0 P,CV P,CT P,CY P,CU P,CW P,C8 P,Es P,D0 P,Df P,Fm P,Db P,EJ P,C2 P,F3 P,Eb P,E0 P,D5 P,sG P,tA P,tn P,vL P,uM P,xo P,yP P,CI P,EC P],
 [PO P,n1 P,n2 P,n3 P,n4 P,n5 P,n6 P,n7 P,n8 P,kQ P,kN P,lN P,lS P,lT P,lU P,mm P,mW P,mM P,m5 P,m7 P,m6 P,nU P,q8 P,om P,m9 P,oF P,o4 P,o5 P,oG P,oQ P,oz P,ou P,ox P,oR P,o0 P,oZ P,oO P,oA P,o6 P,pw P,pt P,pE P,pR P,pK P,pS P,pQ P,pj P,pz P,qa P,qg P,qC P,rg P,qA P,sn P,qO P,sB P,sF P,sX P,um P,un P,tS P,vC P,v8 P,xH P,xY P,zj P,zE P,A0 P,CV P,CT P,CY P,CU P,CW P,C8 P,Es P,D0 P,Df P,Fm P,Db P,EJ P,C2 P,F3 P,Eb P,E0 P,D5 P,sG P,tA P,tn P,vL P,uM P,xo P,yP P,CI P,EC P,H1 P],
 [P3 P,n1 P,n2 P,n3 P,n4 P,n5 P,n6 P,n7 P,n8 P,kQ P,kN P,lN P,lS P,lT P,lU P,mm P,mW P,mM P,m5 P,m7 P,m6 P,nU P,q8 P,om P,m9 P,oF P,o4 P,o5 P,oG P,oQ P,oz P,ou P,ox P,oR P,o0 P,oZ P,oO P,oA P,o6 P,pw P,pt P,pE P,pR P,pK P,pS P,pQ P,pj P,pz P,qa P,qg P,qC P,rg P,qA P,sn P,qO P,sB P,sF P,sX P,um P,un P,tS P,vC P,v8 P,xH P,xY P,zj P,zE P,A0 P,CV P,CT P,CY P,CU P,CW P,C8 P,Es P,D0 P,Df P,Fm P,Db P,EJ P,C2 P,F3 P,Eb P,E0 P,D5 P,sG P,tA P,tn P,vL P,uM P,xo P,yP P,CI P,EC P,H1 P,JM P,Lb P,K7 P,Lw P],
 [Pj P,n1 P,n2 P,n3 P,n4 P,n5 P,n6 P,n7 P,n8 P,kQ P,kN P,lN P,lS P,lT P,lU P,mm P,mW P,mM P,m5 P,m7 P,m6 P,nU P,q8 P,om P,m9 P,oF P,o4 P,o5 P,oG P,oQ P,oz P,ou P,ox P,oR P,o0 P,oZ P,oO P,oA P,o6 P,pw P,pt P,pE P,pR P,pK P,pS P,pQ P,pj P,pz P,qa P,qg P,qC P,rg P,qA P,sn P,qO P,sB P,sF P,sX P,um P,un P,tS P,vC P,v8 P,xH P,xY P,zj P,zE P,A0 P,CV P,CT P,CY P,CU P,CW P,C8 P,Es P,D0 P,Df P,Fm P,Db P,EJ P,C2 P,F3 P,Eb P,E0 P,D5 P,sG P,tA P,tn P,vL P,uM P,xo P,yP P,CI P,EC P,H1 P,JM P,Lb P,K7 P,Lw P,OB P,OR P,NJ P,NQ P,NO P,NA P,OH P,OP P,Og P,Ox P,NR P,Ow P,NX P,ND P],
 [Ph P,n1 P,n2 P,n3 P,n4 P,n5 P,n6 P,n7 P,n8 P,kQ P,kN P,lN P,lS P,lT P,lU P,mm P,mW P,mM P,m5 P,m7 P,m6 P,nU P,q8 P,om P,m9 P,oF P,o4 P,o5 P,oG P,oQ P,oz P,ou P,ox P,oR P,o0 P,oZ P,oO P,oA P,o6 P,pw P,pt P,pE P,pR P,pK P,pS P,pQ P,pj P,pz P,qa P,qg P,qC P,rg P,qA P,sn P,qO P,sB P,sF P,sX P,um P,un P,tS P,vC P,v8 P,xH P,xY P,zj P,zE P,A0 P,CV P,CT P,CY P,CU P,CW P,C8 P,Es P,D0 P,Df P,Fm P,Db P,EJ P,C2 P,F3 P,Eb P,E0 P,D5 P,sG P,tA P,tn P,vL P,uM P,xo P,yP P,CI P,EC P,H1 P,JM P,Lb P,K7 P,Lw P,OB P,OR P,NJ P,NQ P,NO P,NA P,OH P,OP P,Og P,Ox P,NR P,Ow P,NX P,ND P,Pl P,PJ P,Pt P,PV P,Px P,PH P,PR P,PF P,Po P,Pv P,P7 P]]
noncomputable def Pd:List (Int×Nat):=[(1,20),(5,27),(25,67),(41,106),(60,151),(63,158),(86,200),(91,205),(97,212),(110,247),(134,286),(137,291),(141,298),(145,303),(153,308),(161,315),(166,320),(173,325),(183,330),(190,337),(197,344),(205,352),(212,357),(214,362),(216,367),(218,374),(228,379),(232,386),(244,393),(254,398),(266,403),(273,408),(278,415),(280,420),(283,427),(300,472),(302,477),(308,484),(317,508),(319,513),(322,518),(324,525),(331,532),(339,560),(353,586),(362,614),(364,619),(366,626),(378,660),(394,692),(406,718),(413,744),(420,770),(428,796),(441,831),(449,855),(454,860),(456,867),(463,874),(470,881),(472,888),(474,895),(482,900),(487,907),(489,914),(500,921),(502,928),(509,935),(519,942),(527,949),(533,956),(537,963),(553,970),(565,996),(581,1030),(584,1037),(607,1085),(615,1113),(625,1139),(633,1167),(645,1193),(659,1228),(661,1235),(664,1242),(666,1249),(668,1254),(673,1261),(681,1268),(688,1273),(701,1280),(710,1287),(715,1292),(721,1297),(724,1302),(729,1307),(732,1312),(736,1317),(745,1324),(752,1331),(754,1336),(763,1343),(778,1350),(780,1355),(788,1362),(795,1367),(805,1372),(810,1377),(817,1382)]
noncomputable def Qz (es:List DictEntry):Obj:=⟨.type "dict",none,.dict es.toArray es.length,#[]⟩
noncomputable def eV (l:List (Int×Nat)):Obj:=⟨.none,none,.fields (l.flatMap fun x=>[.int x.1 0,.int 0 0,.ref x.2]).toArray,#[]⟩
noncomputable def Qj:Obj:=⟨.type "code",none,.fields #[.str "<module>" 182,.str "<module>" 183,.str "/claim/cut.py" 184,.int 1 0,.int 0 0,.int 0 0,.int 0 0,.int 0 0,.ref 11,.bool false,.int 181 0,.ref 12,.none,.none,.none,.none,.int 185 0,.int 1 0,.str "/claim/cut.py" 186],#[]⟩
noncomputable def QG:Obj:=⟨.type "frame",none,.plain,#[some (.ref 13),some (.ref 3),some (.ref 3),none,some (.str "__main__" 164),none,some (.ref 0)]⟩
noncomputable def Ce:PySem.Env:={ scope:=pp.main.scope,locals:=mainNs,globals:=mainNs,cells:=[],code:=.ref 13,frame:=some 14 }
noncomputable def cc:Code:=.body (behindTheImports pp) Ce
noncomputable def No (a b:Nat):List Stmt:=(pp.main.body.drop a).take b
noncomputable def QD (j:Nat) (P:Params):List DictEntry:=(Pq P).getD j []
noncomputable def Ee (j m:Nat) (f:Nat→Obj) (P:Params) (i:Nat):Obj:=match i with
 | 0=>boot_o_0 P | 1=>boot_o_1 P | 2=>boot_o_2 P | 3=>Qz (QD j P) | 4=>boot_o_4 P | 5=>boot_o_5 P | 6=>boot_o_6 P | 7=>boot_o_7 P | 8=>boot_o_8 P | 9=>boot_o_9 P | 10=>boot_o_10 P
 | 11=>⟨.type "tuple",none,.seq #[] 0,#[]⟩ | 12=>eV (Pd.take m) | 13=>Qj | 14=>QG
 | i=>f i
noncomputable def SP (n toks j m:Nat) (f:Nat→Obj) (w:World) (os:OsState):SharedT:={ tree:=Gn n (Ee j m f w.params) 12 1 0,n,life:={},gens:=#[],drawn:={},toks,os }
noncomputable def res (N n toks j m a b:Nat) (pos:Pos) (w:World) (os:OsState) (f:Nat→Obj):Option (Flow×SharedT×Code×Pos):=
 PySem.W.Fast.tw10110043849684766642 PySem.W.Fast.tw14364793385576792824 pp w 11 (some (.ref 6)) 1 N (SP n toks j m f w os) (piecesOf (No a b) Ce cc pos [topFrame ⟨0,0,0,0⟩])
noncomputable def nx (n:Nat) (r:Option (Flow×SharedT×Code×Pos)) (f:Nat→Obj) (i:Nat):Obj:=match Nat.blt i n with
 | true=>f i
 | false=>match r with | some (_,s,_)=>(s.tree.get i).getD default | none=>default
noncomputable def old (k:Nat) (g:Nat→Obj):Nat→List Obj
 | 0=>[]
 | m+1=>g k::old (k+1) g m
noncomputable def look (n:Nat) (x:Flow×SharedT×Code×Pos):=(x.1,x.2.1.n,x.2.1.toks,x.2.1.life,x.2.1.gens,x.2.1.drawn,x.2.1.os,x.2.2,old 0 (fun i=>(x.2.1.tree.get i).getD default) 15,old 15 (fun i=>(x.2.1.tree.get i).getD default) n)
noncomputable def tg (x:Flow×SharedT×Code×Pos) (i:Nat):Obj:=(x.2.1.tree.get i).getD default
noncomputable def bb (N n toks j m a b:Nat) (pos:Pos) (n' toks' m':Nat) (pos':Pos) (cs fs es:List Nat):Prop:=∀ (w:World) (os:OsState) (f:Nat→Obj),
 (res N n toks j m a b pos w os f).map (fun x=>(look (n - 15) x,jK cs fs es (tg x),fs.map (wT (tg x))))=some ((.next,n',toks',{},#[],{},os,(cc,pos'),old 0 (Ee (j+1) m' f w.params) 15,old 15 f (n - 15)),true,fs.map IA)
theorem JI:bb 366 15 187 0 0 0 4 ⟨0,0,0,0⟩ 62 253 2 ⟨24,0,24,8⟩ [] [] []:=by
 intro w os f
 kernel_rfl
theorem JK:bb 323 62 253 1 2 4 2 ⟨24,0,24,8⟩ 101 306 3 ⟨40,0,40,8⟩ [0] [0,1,2] []:=by
 intro w os f
 kernel_rfl
theorem Kr:bb 383 101 306 2 3 6 3 ⟨40,0,40,8⟩ 153 374 5 ⟨62,0,62,8⟩ [1] [3,4,30] []:=by
 intro w os f
 kernel_rfl
theorem KT:bb 396 153 374 3 5 9 5 ⟨62,0,62,8⟩ 207 448 8 ⟨94,0,94,9⟩ [] [] []:=by
 intro w os f
 kernel_rfl
theorem Mf:bb 309 207 448 4 8 14 3 ⟨94,0,94,9⟩ 242 501 9 ⟨97,0,109,16⟩ [] [] []:=by
 intro w os f
 kernel_rfl
theorem La:bb 387 242 501 5 9 17 4 ⟨97,0,109,16⟩ 293 574 12 ⟨137,0,140,41⟩ [] [] []:=by
 intro w os f
 kernel_rfl
theorem LZ:bb 396 293 574 6 12 21 16 ⟨137,0,140,41⟩ 369 676 25 ⟨216,0,217,111⟩ [] [31,32] [346]:=by
 intro w os f
 kernel_rfl
theorem Ll:bb 284 369 676 7 25 37 11 ⟨216,0,217,111⟩ 422 757 34 ⟨282,0,282,8⟩ [] [33,34,35,36,37] []:=by
 intro w os f
 kernel_rfl
theorem L2:bb 382 422 757 8 34 48 3 ⟨282,0,282,8⟩ 474 824 36 ⟨300,0,301,37⟩ [] [38] []:=by
 intro w os f
 kernel_rfl
theorem Lm:bb 374 474 824 9 36 51 7 ⟨300,0,301,37⟩ 520 886 41 ⟨322,0,323,68⟩ [2] [5,6,39] []:=by
 intro w os f
 kernel_rfl
theorem Il:bb 289 520 886 10 41 58 2 ⟨322,0,323,68⟩ 555 935 43 ⟨331,0,338,98⟩ [] [] []:=by
 intro w os f
 kernel_rfl
theorem HX:bb 253 555 935 11 43 60 1 ⟨331,0,338,98⟩ 581 972 44 ⟨339,0,352,66⟩ [] [] []:=by
 intro w os f
 kernel_rfl
theorem G4:bb 320 581 972 12 44 61 4 ⟨339,0,352,66⟩ 621 1025 47 ⟨364,0,365,69⟩ [] [40,41] []:=by
 intro w os f
 kernel_rfl
theorem IF:bb 287 621 1025 13 47 65 1 ⟨364,0,365,69⟩ 655 1071 48 ⟨366,0,377,47⟩ [3] [7,8] []:=by
 intro w os f
 kernel_rfl
theorem HA:bb 294 655 1071 14 48 66 2 ⟨366,0,377,47⟩ 687 1119 49 ⟨393,0,393,8⟩ [] [] [682]:=by
 intro w os f
 kernel_rfl
theorem Ia:bb 264 687 1119 15 49 68 2 ⟨393,0,393,8⟩ 713 1160 50 ⟨405,0,405,8⟩ [] [] []:=by
 intro w os f
 kernel_rfl
theorem Hz:bb 251 713 1160 16 50 70 1 ⟨405,0,405,8⟩ 739 1195 51 ⟨406,0,412,100⟩ [4] [9,10] []:=by
 intro w os f
 kernel_rfl
theorem Hn:bb 251 739 1195 17 51 71 1 ⟨406,0,412,100⟩ 765 1230 52 ⟨413,0,419,109⟩ [] [] []:=by
 intro w os f
 kernel_rfl
theorem GM:bb 260 765 1230 18 52 72 2 ⟨413,0,419,109⟩ 791 1267 53 ⟨427,0,427,8⟩ [] [] []:=by
 intro w os f
 kernel_rfl
theorem IE:bb 291 791 1267 19 53 74 1 ⟨427,0,427,8⟩ 826 1316 54 ⟨428,0,440,42⟩ [5] [11,12,13] []:=by
 intro w os f
 kernel_rfl
theorem IL:bb 378 826 1316 20 54 75 6 ⟨428,0,440,42⟩ 876 1387 59 ⟨463,0,469,26⟩ [] [42,43,44] []:=by
 intro w os f
 kernel_rfl
theorem G6:bb 372 876 1387 21 59 81 12 ⟨463,0,469,26⟩ 958 1496 71 ⟨533,0,536,67⟩ [] [45,46,47,48,49] []:=by
 intro w os f
 kernel_rfl
theorem GV:bb 314 958 1496 22 71 93 5 ⟨533,0,536,67⟩ 991 1551 73 ⟨564,0,564,8⟩ [6] [14,15,50] []:=by
 intro w os f
 kernel_rfl
theorem IR:bb 388 991 1551 23 73 98 3 ⟨564,0,564,8⟩ 1032 1613 75 ⟨583,0,583,8⟩ [7] [16,17,51] []:=by
 intro w os f
 kernel_rfl
theorem Iv:bb 366 1032 1613 24 75 101 2 ⟨583,0,583,8⟩ 1080 1683 76 ⟨606,0,606,8⟩ [8] [18,19] []:=by
 intro w os f
 kernel_rfl
theorem Gw:bb 256 1080 1683 25 76 103 1 ⟨606,0,606,8⟩ 1108 1721 77 ⟨607,0,614,52⟩ [9] [20,21] []:=by
 intro w os f
 kernel_rfl
theorem Ij:bb 255 1108 1721 26 77 104 1 ⟨607,0,614,52⟩ 1134 1760 78 ⟨615,0,624,86⟩ [10] [22,23] []:=by
 intro w os f
 kernel_rfl
theorem HV:bb 256 1134 1760 27 78 105 1 ⟨615,0,624,86⟩ 1162 1798 79 ⟨625,0,632,46⟩ [11] [24,25] []:=by
 intro w os f
 kernel_rfl
theorem Gs:bb 264 1162 1798 28 79 106 2 ⟨625,0,632,46⟩ 1188 1839 80 ⟨644,0,644,8⟩ [12] [26,27] []:=by
 intro w os f
 kernel_rfl
theorem Hj:bb 390 1188 1839 29 80 108 5 ⟨644,0,644,8⟩ 1244 1914 84 ⟨664,0,665,177⟩ [13] [28,29,52,53,54] []:=by
 intro w os f
 kernel_rfl
theorem IU:bb 383 1244 1914 30 84 113 15 ⟨664,0,665,177⟩ 1319 2012 97 ⟨736,0,744,105⟩ [] [55,56,57,58,59,60,61,62,63,64,65,66,67] []:=by
 intro w os f
 kernel_rfl
theorem G3:bb 328 1319 2012 31 97 128 12 ⟨736,0,744,105⟩ 1384 2102 108 ⟨817,0,853,32⟩ [] [68,69,70,71,72,73,74,75,76,77,78] []:=by
 intro w os f
 kernel_rfl
end
section
set_option maxHeartbeats 0
noncomputable def Ls:Stmt→List PySem.Str
 | .FunctionDef n ..=>[n]
 | .ClassDef n ..=>[n]
 | .Assign [.Name x _] _ _=>[x]
 | _=>[]
noncomputable def qL:Program:=view pp [139]
noncomputable def rA:List PySem.Str:=(pp.main.body.take 139).flatMap Ls
noncomputable def P0 (s:Shared):Bool:=recOk (RowW.records cW.toRowW) s
noncomputable def Fs (h:Heap):Bool:=
 h.isNs mainGlobals&&h.isNs builtinsNs&&(h.get? sysModules).isSome&&vn h "BLANK" 32&&vn h "USE_SET" 16&&(h.nsMap mainGlobals "CONTEXT_KINDS"==some (.ref 346)) &&
 (iL.all fun p=>h.nsMap mainGlobals p.2==some (.ref (xU p.1)))&&(jp.all fun p=>h.nsMap mainGlobals p.2==some (.ref (OY p.1))) &&
 (Hb.all fun b=>(h.nsMap mainGlobals (Str.ofString b)==none)&&(h.nsMap builtinsNs (Str.ofString b)==some (.builtin b))) &&
 (GD.all fun b=>(h.nsMap mainGlobals (Str.ofString b)==none)&&(h.nsMap builtinsNs (Str.ofString b)==some (.type b)))
noncomputable def pX (w:World) (s:Shared):=(staticsOk (importedModules pp.main.body) (boot_heap w.params) s.heap&&namesBound pp s.heap&&gensDone s&&laidKept (boot_heap w.params) s.heap,openSeen qL rA (importedModules pp.main.body) P0 true s,Fs s.heap)
theorem Pf (w:World) (os:OsState) (f:Nat→Obj):(res 328 1319 2012 31 97 128 12 ⟨736,0,744,105⟩ w os f).map (fun x=>pX w x.2.1.abs)=some (true,openGood qL rA,true):=by kernel_rfl
end
section
set_option maxHeartbeats 0
noncomputable def sz:Nat→Nat
 | 0=>0
 | k+1=>sz k+sz k+1
theorem Dh {k a b:Nat} {f:Nat→Obj} (h:b < n):Gn n f (k+1) a b=.node (f b) (Gn n f k (2*a) (a+b)) (Gn n f k (2*a) (2*a+b)):=by
 show (match Nat.blt b n with | true=>_ | false=>_)=_
 rw [Nat.blt_eq.mpr h]
theorem KN (v:Obj) (l r:BT) (q:Nat):(BT.node v l r).get (2*q+1)=l.get q:=by
 rw [BT.get_node,av (Nat.succ_ne_zero _),au (by rw [Nat.mul_add_mod]),Nat.mul_add_div (Nat.succ_pos 1)];rfl
theorem Kz (v:Obj) (l r:BT) (q:Nat):(BT.node v l r).get (2*q+2)=r.get q:=by
 rw [BT.get_node,av (Nat.succ_ne_zero _),av (by rw [Nat.mul_add_mod];decide),Nat.mul_add_div (Nat.succ_pos 1)];rfl
theorem PD (a b q:Nat):a+b+2*a*q=b+a*(2*q+1):=by
 rw [Nat.mul_comm 2 a,Nat.mul_assoc,Nat.add_comm a b,Nat.add_assoc,Nat.add_comm a];rfl
theorem Pb (a b q:Nat):2*a+b+2*a*q=b+a*(2*q+2):=by
 rw [Nat.mul_comm 2 a,Nat.mul_assoc,Nat.add_comm (a*2) b,Nat.add_assoc,Nat.add_comm (a*2),← Nat.mul_add]
theorem Le (i:Nat):i=0∨(∃ q,i=2*q+1)∨∃ q,i=2*q+2:=by
 induction i with
 | zero=>exact .inl rfl
 | succ i ih=>exact ih.elim (fun h=>.inr (.inl ⟨0,by rw [h]⟩)) fun h=>h.elim (fun ⟨q,e⟩=>.inr (.inr ⟨q,by rw [e]⟩)) fun ⟨q,e⟩=>.inr (.inl ⟨q+1,by rw [e];rfl⟩)
theorem Ab {q s:Nat} (h:2*q+1 < s+s+1):q < s:=Nat.lt_of_mul_lt_mul_left (a:=2) (by rw [Nat.two_mul s];exact Nat.lt_of_succ_lt_succ h)
theorem GO {f:Nat→Obj} {k:Nat}:∀ {a b i:Nat},i < sz k→b+a*i < n→(Gn n f k a b).get i=some (f (b+a*i)):=by
 induction k with
 | zero=>exact fun h=>absurd h (Nat.not_lt_zero _)
 | succ k ih=>
  intro a b i h hn
  rw [Dh (eG (Nat.le_add_right _ _) hn)]
  rcases Le i with e | ⟨q,e⟩ | ⟨q,e⟩
  ·rw [e,BT.get_node];rfl
  ·rw [e] at hn h ⊢
   rw [KN,← PD] at *
   exact ih (Ab h) hn
  ·rw [e] at hn h ⊢
   rw [Kz,← Pb] at *
   exact ih (Ab (Nat.lt_of_succ_lt h)) hn
theorem zN {f:Nat→Obj} {i:Nat} (hn:n≤4000) (h:i < n):(Gn n f 12 1 0).get i=some (f i):=by
 have e:0+1*i=i:=by rw [Nat.zero_add,Nat.one_mul]
 have:=GO (n:=n) (f:=f) (k:=12) (a:=1) (b:=0) (i:=i) (gI h (aI hn (by decide))) (by rw [e];exact h)
 rw [e] at this;exact this
theorem yS (g:Nat→Obj):∀ (m k i:Nat),i < m→(old k g m)[i]? = some (g (k+i))
 | 0,_,_,h=>absurd h (Nat.not_lt_zero _)
 | m+1,k,0,h=>rfl
 | m+1,k,i+1,h=>by
  show (old (k+1) g m)[i]? = _
  rw [yS g m (k+1) i (Nat.lt_of_succ_lt_succ h),Nat.add_assoc,Nat.add_comm 1 i]
theorem zq {g g':Nat→Obj} {m k:Nat} (e:old k g m=old k g' m) {i:Nat} (h1:k≤i) (h2:i < k+m):g i=g' i:=by
 have hm:=Nat.sub_lt_left_of_lt_add h1 h2
 have a:=yS g m k (i - k) hm
 rw [e,yS g' m k (i - k) hm,Nat.add_sub_cancel' h1] at a
 exact (az a).symm
theorem Kh {t t':BT} {life:Life} (h:∀ i,i < n→(t.get i).getD default=(t'.get i).getD default):absHeap t n life=absHeap t' n life:=by
 unfold absHeap BT.list
 congr 2
 exact iv fun i hi=>h i (List.mem_range.mp hi)
theorem zX {j m:Nat} {P:Params} (g:Nat→Obj) {i:Nat} (h:15≤i):Ee j m g P i=g i:=by
 obtain ⟨k,rfl⟩:=Nat.exists_eq_add_of_le' h
 rfl
theorem AK {j m:Nat} {P:Params} (g g':Nat→Obj) {i:Nat} (h:i < 15):Ee j m g P i=Ee j m g' P i:=
 zq (g:=Ee j m g P) (g':=Ee j m g' P) (k:=0) (m:=15) rfl (cr _) (by rw [Nat.zero_add];exact h)
noncomputable abbrev Pk (N:Nat) (s:Shared) (w:World) (a b:Nat) (pos:Pos):=segRun treeTable pp w 11 (some (.ref 6)) 1 N s (piecesOf (No a b) Ce cc pos [topFrame ⟨0,0,0,0⟩])
inductive NP (n:Nat) (f:Nat→Obj) (cs fs es:List Nat) (g:Nat→Obj):Prop
 | mk (old:∀ i,i < n→g i=f i) (facts:jK cs fs es g=true) (bods:fs.map (wT g)=fs.map IA)
noncomputable def above (n:Nat) (cs fs es:List Nat):Bool:=(cs.all fun c=>(s0 c).all fun x=>Nat.ble n x)&&(fs.all fun f=>(ph f).all fun x=>Nat.ble n x)&&es.all fun x=>Nat.ble n x
theorem E1 {g g':Nat→Obj} {l:List Addr} {p:Nat→Prop} (h:∀ i,p i→g i=g' i) (hl:∀ x∈l,p x):nh g l=nh g' l:=iv fun x hx=>by rw [h x (hl x hx)]
theorem nR {α:Type} {l:List α} {p q:α→Bool} (h:∀ x∈l,p x=q x):l.all p=l.all q:=by
 induction l with
 | nil=>rfl
 | cons a l ih=>rw [List.all_cons,List.all_cons,h a (.head _),ih fun x m=>h x (.tail _ m)]
theorem xm {g g':Nat→Obj} {p:Nat→Prop} {cs fs es:List Nat} (h:∀ i,p i→g i=g' i) (hc:∀ c∈cs,∀ x∈s0 c,p x) (hf:∀ f∈fs,∀ x∈ph f,p x) (he:∀ x∈es,p x):jK cs fs es g=jK cs fs es g'∧fs.map (wT g)=fs.map (wT g'):=by
 constructor
 ·have q1:(cs.all fun c=>Ec (nh g (s0 c)) c)=cs.all fun c=>Ec (nh g' (s0 c)) c:=nR fun c m=>by rw [E1 h (hc c m)]
  have q2:(fs.all fun f=>FD (nh g (ph f)) f)=fs.all fun f=>FD (nh g' (ph f)) f:=nR fun f m=>by rw [E1 h (hf f m)]
  have q3:(es.all fun a=>wc a (g a))=es.all fun a=>wc a (g' a):=nR fun x m=>by rw [h x (he x m)]
  unfold jK
  rw [q1,q2,q3]
 ·exact iv fun f m=>by unfold wT;rw [h _ (hf f m _ (.head _))]
theorem yd {cs fs es:List Nat} (h:above n cs fs es=true):(∀ c∈cs,∀ x∈s0 c,n≤x)∧(∀ f∈fs,∀ x∈ph f,n≤x)∧∀ x∈es,n≤x:=by
 unfold above at h
 rw [bC,bC] at h
 exact ⟨fun c hc x hx=>Nat.le_of_ble_eq_true (aY.mp (aY.mp h.1.1 c hc) x hx),fun f hf x hx=>Nat.le_of_ble_eq_true (aY.mp (aY.mp h.1.2 f hf) x hx),fun x hx=>Nat.le_of_ble_eq_true (aY.mp h.2 x hx)⟩
theorem Cj {j n' toks' m':Nat} {f:Nat→Obj} {w:World} {os:OsState} {T:BT} (e7:old 0 (fun i=>(T.get i).getD default) 15=old 0 (Ee (j+1) m' f w.params) 15) (e8:old 15 (fun i=>(T.get i).getD default) (n - 15)=old 15 f (n - 15)) (hn:15≤n) (hb:n'≤4000) :
  SharedT.abs ⟨T,n',{},#[],{},toks',os⟩=(SP n' toks' (j+1) m' (fun i=>if i < n then f i else (T.get i).getD default) w os).abs:=by
 unfold SP SharedT.abs
 dsimp only
 congr 1
 refine Kh fun i hi=>?_
 rw [zN hb hi]
 show _=Ee (j+1) m' _ w.params i
 by_cases h15:i < 15
 ·rw [AK _ f h15]
  exact zq e7 (cr _) (by rw [Nat.zero_add];exact h15)
 ·rw [zX _ (Nat.not_lt.mp h15)]
  by_cases hlt:i < n
  ·rw [au hlt]
   exact zq e8 (Nat.not_lt.mp h15) (by rw [Nat.add_sub_cancel' hn];exact hlt)
  ·rw [av hlt]
theorem Ci {s:SharedT} {toks:Nat} {os:OsState} (e1:s.n=n) (e2:s.toks=toks) (e3:s.life={}) (e4:s.gens=#[]) (e5:s.drawn={}) (e6:s.os=os):s=⟨s.tree,n,{},#[],{},toks,os⟩:=by
 cases s;cases e1;cases e2;cases e3;cases e4;cases e5;cases e6;rfl
theorem qJ {N toks j m a b:Nat} {pos:Pos} {n' toks' m':Nat} {pos':Pos} {cs fs es:List Nat} (h:bb N n toks j m a b pos n' toks' m' pos' cs fs es) (hn:15≤n) (hn':n≤n') (hb:n'≤4000) (ha:above n cs fs es=true) (w:World) (os:OsState) (f:Nat→Obj) :
  ∃ g x,res N n toks j m a b pos w os f=some x∧x.2.1.abs=(SP n' toks' (j+1) m' g w os).abs∧Pk N (SP n toks j m f w os).abs w a b pos=some (.next,(SP n' toks' (j+1) m' g w os).abs,cc,pos')∧NP n f cs fs es g:=by
 obtain ⟨⟨fl,s,c,q⟩,hr,hx⟩:=oK.mp (h w os f)
 have hl:=aw (·.1) hx
 have hg:∀ i,n≤i→tg (fl,s,c,q) i=(fun i=>if i < n then f i else (s.tree.get i).getD default) i:=fun i hi=>(av (Nat.not_lt.mpr hi)).symm
 obtain ⟨a1,a2,a3⟩:=yd ha
 obtain ⟨q1,q2⟩:=xm (p:=fun i=>n≤i) hg a1 a2 a3
 have key:=(aw SharedT.abs (Ci (s:=s) (aw (·.2.1) hl) (aw (·.2.2.1) hl) (aw (·.2.2.2.1) hl) (aw (·.2.2.2.2.1) hl) (aw (·.2.2.2.2.2.1) hl) (aw (·.2.2.2.2.2.2.1) hl))).trans (Cj (w:=w) (aw (·.2.2.2.2.2.2.2.2.1) hl) (aw (·.2.2.2.2.2.2.2.2.2) hl) hn hb)
 refine ⟨_,_,hr,key,?_,fun i hi=>au hi,q1▸aw (·.2.1) hx,q2▸aw (·.2.2) hx⟩
 unfold res at hr
 rw [← PySem.W.Fast.te10110043849684766642,← PySem.W.Fast.te14364793385576792824] at hr
 have hs:=segRun_of hr
 rw [key] at hs
 exact hs.trans (aw (fun y:Flow×Code×Pos=>some (y.1,_,y.2)) (aw (fun y=>(y.1,y.2.2.2.2.2.2.2.1)) hl))
inductive NI (w:World) (s:Shared):Prop
 | mk (h1:(pX w s).1=true) (h2:(pX w s).2.1=openGood qL rA) (h3:(pX w s).2.2=true)
noncomputable def dR (n toks j m a N:Nat) (pos:Pos) (cs fs es:List Nat):Prop:=∀ (w:World) (os:OsState) (f:Nat→Obj),
 ∃ g,topRun treeTable pp w 11 (some (.ref 6)) N (SP n toks j m f w os).abs (restOf (pp.main.body.drop a) Ce cc pos [topFrame ⟨0,0,0,0⟩])=some (SP 1384 2102 32 108 g w os).abs∧NI w (SP 1384 2102 32 108 g w os).abs∧NP n f cs fs es g
theorem dR.step {N toks j m a b:Nat} {pos:Pos} {n' toks' m' N':Nat} {pos':Pos} {cs fs es cs' fs' es':List Nat} (h:bb N n toks j m a b pos n' toks' m' pos' cs fs es) (t:dR n' toks' (j+1) m' (a+b) N' pos' cs' fs' es')
  (hn:(Nat.ble 15 n&&Nat.ble n n'&&Nat.ble n' 4000&&above n cs fs es)=true) (hu:((cs.all fun c=>(s0 c).all fun x=>Nat.blt x n')&&(fs.all fun f=>(ph f).all fun x=>Nat.blt x n')&&es.all fun x=>Nat.blt x n')=true):dR n toks j m a (N+N') pos (cs++cs') (fs++fs') (es++es'):=by
 simp only [bC] at hn hu
 obtain ⟨⟨⟨h1,h2⟩,h3⟩,h4⟩:=hn
 intro w os f
 obtain ⟨g,_,_,_,hs,ho,hf,hbd⟩:=qJ h (Nat.le_of_ble_eq_true h1) (Nat.le_of_ble_eq_true h2) (Nat.le_of_ble_eq_true h3) h4 w os f
 obtain ⟨g',hr,he',ho',hf',hbd'⟩:=t w os g
 have hlow:∀ i,i < n'→g i=g' i:=fun i hi=>(ho' i hi).symm
 obtain ⟨q1,q2⟩:=xm (cs:=cs) (fs:=fs) (es:=es) (p:=fun i=>i < n') hlow (fun c hc x hx=>Nat.blt_eq.mp (aY.mp (aY.mp hu.1.1 c hc) x hx)) (fun f hf x hx=>Nat.blt_eq.mp (aY.mp (aY.mp hu.1.2 f hf) x hx)) (fun x hx=>Nat.blt_eq.mp (aY.mp hu.2 x hx))
 rw [q1] at hf
 rw [q2] at hbd
 refine ⟨g',?_,he',fun i hi=>(ho' i (gI hi (Nat.le_of_ble_eq_true h2))).trans (ho i hi),?_,?_⟩
 ·have e:pp.main.body.drop a=No a b++pp.main.body.drop (a+b):=by
   unfold No
   rw [← List.drop_drop];exact (List.take_append_drop _ _).symm
  rw [e]
  exact piece_app hs hr
 ·unfold jK at hf hf' ⊢
  simp only [List.all_append,bC] at hf hf' ⊢
  exact ⟨⟨⟨hf.1.1,hf'.1.1⟩,hf.1.2,hf'.1.2⟩,hf.2,hf'.2⟩
 ·rw [dK,dK,hbd,hbd']
end
section
set_option maxHeartbeats 0
theorem IH (w:World) (os:OsState) (f:Nat→Obj):topRun treeTable pp w 11 (some (.ref 6)) 2 (SP 1384 2102 32 108 f w os).abs ⟨doneF .next,cc,⟨817,0,853,32⟩,[topFrame ⟨0,0,0,0⟩]⟩=some (SP 1384 2102 32 108 f w os).abs:=by
 generalize (SP 1384 2102 32 108 f w os).abs=s
 kernel_rfl
theorem EN:pp.main.body.drop 140=[]:=by kernel_rfl
theorem KG:dR 1319 2012 31 97 128 330 ⟨736,0,744,105⟩ [] [68,69,70,71,72,73,74,75,76,77,78] []:=by
 intro w os f
 obtain ⟨g,x,hr,hx,hs,L⟩:=qJ G3 (by decide) (by decide) (by decide) (by decide +kernel) w os f
 have hl:=Pf w os f
 rw [hr,Option.map_some,Option.some.injEq,hx] at hl
 refine ⟨g,?_,⟨aw Prod.fst hl,aw (fun y=>y.2.1) hl,aw (fun y=>y.2.2) hl⟩,L⟩
 have e:pp.main.body.drop 128=No 128 12++[]:=by
  unfold No
  rw [← EN,show pp.main.body.drop 140=pp.main.body.drop (128+12) from rfl,← List.drop_drop]
  exact (List.take_append_drop _ _).symm
 rw [e]
 have:=piece_app (N:=2) (rest:=[]) hs (IH w os g)
 exact this
noncomputable def My:=dR.step IU KG (by decide +kernel) (by decide +kernel)
noncomputable def JP:=dR.step Hj My (by decide +kernel) (by decide +kernel)
noncomputable def KS:=dR.step Gs JP (by decide +kernel) (by decide +kernel)
noncomputable def LP:=dR.step HV KS (by decide +kernel) (by decide +kernel)
noncomputable def Me:=dR.step Ij LP (by decide +kernel) (by decide +kernel)
noncomputable def MV:=dR.step Gw Me (by decide +kernel) (by decide +kernel)
noncomputable def MP:=dR.step Iv MV (by decide +kernel) (by decide +kernel)
noncomputable def M8:=dR.step IR MP (by decide +kernel) (by decide +kernel)
noncomputable def KY:=dR.step GV M8 (by decide +kernel) (by decide +kernel)
noncomputable def MI:=dR.step G6 KY (by decide +kernel) (by decide +kernel)
noncomputable def MQ:=dR.step IL MI (by decide +kernel) (by decide +kernel)
noncomputable def JN:=dR.step IE MQ (by decide +kernel) (by decide +kernel)
noncomputable def K1:=dR.step GM JN (by decide +kernel) (by decide +kernel)
noncomputable def Lh:=dR.step Hn K1 (by decide +kernel) (by decide +kernel)
noncomputable def JG:=dR.step Hz Lh (by decide +kernel) (by decide +kernel)
noncomputable def K3:=dR.step Ia JG (by decide +kernel) (by decide +kernel)
noncomputable def Lo:=dR.step HA K3 (by decide +kernel) (by decide +kernel)
noncomputable def MM:=dR.step IF Lo (by decide +kernel) (by decide +kernel)
noncomputable def LW:=dR.step G4 MM (by decide +kernel) (by decide +kernel)
noncomputable def LQ:=dR.step HX LW (by decide +kernel) (by decide +kernel)
noncomputable def Lu:=dR.step Il LQ (by decide +kernel) (by decide +kernel)
noncomputable def OD:=dR.step Lm Lu (by decide +kernel) (by decide +kernel)
noncomputable def Ot:=dR.step L2 OD (by decide +kernel) (by decide +kernel)
noncomputable def On:=dR.step Ll Ot (by decide +kernel) (by decide +kernel)
noncomputable def Oh:=dR.step LZ On (by decide +kernel) (by decide +kernel)
noncomputable def Oq:=dR.step La Oh (by decide +kernel) (by decide +kernel)
noncomputable def NC:=dR.step Mf Oq (by decide +kernel) (by decide +kernel)
noncomputable def NF:=dR.step KT NC (by decide +kernel) (by decide +kernel)
noncomputable def Nx:=dR.step Kr NF (by decide +kernel) (by decide +kernel)
noncomputable def N8:=dR.step JK Nx (by decide +kernel) (by decide +kernel)
noncomputable def Nu:=dR.step JI N8 (by decide +kernel) (by decide +kernel)
theorem Ld:behindTheImports pp=pp.main.body:=by kernel_rfl
theorem Iy (w:World) (os:OsState):topGo treeTable pp w 11 (some (.ref 6)) 12 ⟨boot_heap w.params,Array.mk [],boot_drawn,boot_toks,os⟩ (topStub pp) =
  some ((SP 15 187 0 0 (fun _=>default) w os).abs,⟨denote treeTable (.body (behindTheImports pp) Ce),cc,⟨0,0,0,0⟩,[topFrame ⟨0,0,0,0⟩]⟩):=by kernel_rfl
end
end Nz
namespace Nz
open PySem PyProof.Rows PySem.W
variable {n:PySem.Str}
section
noncomputable def Sub (K K':Frag):Prop:=∀ a o,K.lookup a=some o→K'.lookup a=some o
section
variable {K K':Frag} (S:Sub K K')
include S
theorem GX {ns:Addr} {r:Option Value} (e:nsIn K ns n=some r):nsIn K' ns n=some r:=by
 unfold nsIn at e ⊢
 induction q:K.lookup ns with
 | none=>rw [q] at e;exact nn e
 | some o=>rw [q] at e;rw [S _ _ q];exact e
theorem Dz {v:Value} {r:Option Value} (e:ownIn K n v=some r):ownIn K' n v=some r:=by
 induction v with
 | ref a=>
  unfold ownIn at e ⊢
  dsimp only at e ⊢
  induction q:K.lookup a with
  | none=>rw [q] at e;exact nn e
  | some o=>
   rw [q] at e;rw [S _ _ q]
   obtain ⟨c,d,dat,sl⟩:=o
   induction dat with
   | cls cd=>exact GX S e
   | _=>exact nn e
 | _=>exact e
theorem yo {l:List Value} {r:Option Value} (e:alongIn K n l=some r):alongIn K' n l=some r:=by
 induction l with
 | nil=>exact e
 | cons c l ih=>
  unfold alongIn at e ⊢
  induction q:ownIn K n c with
  | none=>rw [q] at e;exact nn e
  | some v=>
   rw [q] at e;rw [Dz S q]
   induction v with
   | none=>exact ih e
   | some v=>exact e
theorem eE {t:Value} {r:Option Value} (e:findIn K t n=some r):findIn K' t n=some r:=by
 induction t with
 | ref a=>
  unfold findIn at e ⊢
  dsimp only at e ⊢
  induction q:K.lookup a with
  | none=>rw [q] at e;exact nn e
  | some o=>
   rw [q] at e;rw [S _ _ q]
   obtain ⟨c,d,dat,sl⟩:=o
   induction dat with
   | cls cd=>exact yo S e
   | _=>exact nn e
 | _=>exact e
theorem kj {v:Value} {r:Value} (e:typeIn K v=some r):typeIn K' v=some r:=by
 unfold typeIn at e ⊢
 induction v with
 | ref a=>
  obtain ⟨o,ho,rfl⟩:=oK.mp e
  dsimp only;rw [S _ _ ho];rfl
 | _=>exact e
theorem rN {C:Addr} {cd:ClassData} (e:clsIn K C=some cd):clsIn K' C=some cd:=by
 unfold clsIn at e ⊢
 induction q:K.lookup C with
 | none=>rw [q] at e;exact nn e
 | some o=>rw [q] at e;rw [S _ _ q];exact e
theorem xe {C:Addr} {b:Value} {r:Bool} (e:mroIn K C b=some r):mroIn K' C b=some r:=by
 unfold mroIn at e ⊢
 obtain ⟨cd,h1,h2⟩:=kS.mp e
 rw [rN S h1];exact h2
theorem w7 {C:Addr} {b:Value} {r:Bool} (e:subIn K (.ref C) b=some r):subIn K' (.ref C) b=some r:=xe S e
theorem vS {C:Addr} (e:plainOver K C=true):plainOver K' C=true:=by
 unfold plainOver at e ⊢
 obtain ⟨cd,h1,h2⟩:=any_some e
 rw [rN S h1];exact h2
theorem u9 {v:Value} {r:Option Value} (e:specialIn K v n=some r):specialIn K' v n=some r:=by
 unfold specialIn at e ⊢
 obtain ⟨t,h1,h2⟩:=kS.mp e
 rw [kj S h1];exact eE S h2
theorem yb {C:Addr} (e:makesIn K C=true):makesIn K' C=true:=by
 unfold makesIn at e ⊢
 induction q:K.lookup C with
 | none=>rw [q] at e;exact bt e
 | some o=>
  rw [q] at e;rw [S _ _ q]
  obtain ⟨c,d,dat,sl⟩:=o
  induction dat with
  | cls cd=>
   obtain ⟨e,e8⟩:=cz.mp e
   obtain ⟨e,e7⟩:=cz.mp e
   refine cz.mpr ⟨cz.mpr ⟨e,bp.mpr (u9 S (bp.mp e7))⟩,bp.mpr ?_⟩
   obtain ⟨t,h1,h2⟩:=kS.mp (bp.mp e8)
   refine kS.mpr ⟨t,kj S h1,?_⟩
   induction t with
   | ref c=>exact w7 S h2
   | _=>exact h2
  | _=>exact bt e
end
theorem lu {g:Nat→Obj} {l:List Addr} {a:Addr} {o:Obj} (e:(nh g l).lookup a=some o):a∈l∧o=g a:=by
 induction l with
 | nil=>exact nn e
 | cons b l ih=>
  unfold nh at e ih
  rw [c8,i7] at e
  induction q:a==b with
  | true=>rw [q] at e;rw [← az e,bp.mp q];exact ⟨.head _,rfl⟩
  | false=>rw [q] at e;obtain ⟨h1,h2⟩:=ih e;exact ⟨.tail _ h1,h2⟩
theorem x7 {g:Nat→Obj} {l:List Addr} {a:Addr} (h:a∈l):(nh g l).lookup a=some (g a):=by
 induction l with
 | nil=>exact nomatch h
 | cons b l ih=>
  unfold nh at ih ⊢
  rw [c8,i7]
  induction q:a==b with
  | true=>rw [bp.mp q]
  | false=>exact ih ((aU.mp h).resolve_left (ne_of_beq_false q))
theorem zv {g:Nat→Obj} {l:List Addr} (h:((nh g l).all fun p=>ju p.2)=true) {a:Addr} (ha:a∈l):ju (g a)=true:=aY.mp h (a,g a) (bo.mpr ⟨a,ha,rfl⟩)
theorem Ie {g:Nat→Obj} {l l':List Addr} (h:∀ a∈l,a∈l'):Sub (nh g l) (nh g l'):=fun a o e=>by
 obtain ⟨h1,rfl⟩:=lu e
 exact x7 (h a h1)
noncomputable def M7:List Nat:=[0,1,2,3,4,5,6,7,8,9,10,11,12,13]
noncomputable def Gj:List Nat:=[0,1,2,3,4,30,31,32,33,34,35,36,37,38,5,6,39,40,41,7,8,9,10,11,12,13,42,43,44,45,46,47,48,49,14,15,50,16,17,51,18,19,20,21,22,23,24,25,26,27,28,29,52,53,54,55,56,57,58,59,60,61,62,63,64,65,66,67,68,69,70,71,72,73,74,75,76,77,78]
noncomputable def zp:List Addr:=682::M7.flatMap s0
inductive yT (h:Heap):Prop
 | mk (h'1:Heap) (g:Nat→Obj) (keep:∀ b o,h'1.get? b=some o→h.get? b=some o) (glob:Fs h'1=true) (at_:∀ i,15≤i→i < 1384→ju (g i)=true→h'1.get? i=some (g i)) (facts:jK M7 Gj [346,682] g=true) (bods:Gj.map (wT g)=Gj.map IA)
theorem yT.keeps {h h':Heap} (x:yT h) (k:∀ b o,h.get? b=some o→h'.get? b=some o):yT h':=by
 obtain ⟨h'1,g,k1,a,b,c,d⟩:=x
 exact ⟨h'1,g,fun b o e=>k b o (k1 b o e),a,b,c,d⟩
noncomputable def Ln (a:Addr):Prop:=a=346
noncomputable def A7 (prog:Program) (w:World) (g:Nat→Obj) (h:Heap) (mg mb:PySem.Str→Option Value):Wd:=
 { prog,w,ca:=OY,fa:=xU,h0:=h,F0:=Ln,g:=mainGlobals,b:=builtinsNs,mg,mb,K:=nh g zp,src:=yN,ow:=OM }
theorem Dg (K:Frag):specialIn K (.builtin "object.__class__") "__get__"=some (some (.builtin "getset_descriptor.__get__"))∧takesIn K (.builtin "object.__class__")=some true:=by
 refine ⟨?_,?_⟩
 ·kernel_rfl
 ·kernel_rfl
theorem Au {i:Nat} {x:PySem.Str} (h:bm i x):jh i=x:=by
 unfold bm at h
 unfold jh
 rw [hQ,h];rfl
noncomputable def Ic (f:Nat):List T:=match f0 f with | some d=>d.dflts | none=>[]
theorem Hi:((List.range 79).all fun f=>f==0||f==7||f==18||(Ic f).isEmpty)=true:=by decide +kernel
theorem L5 {f:Nat} (h:f < 79) (h0:f≠0) (h7:f≠7) (h18:f≠18):Ic f=[]:=by
 have:=aY.mp Hi f (List.mem_range.mpr h)
 simpa [h0,h7,h18] using this
theorem KW:(qd.all fun p=>(decide (14≤p.2.1)||p.2.2==lh p.2.1)&&decide (p.2.1 < 15))=true:=by decide +kernel
theorem EU {x:PySem.Str} {c i:Nat} (h:tb.cls x=some (c,i)):(c < 14→i=lh c)∧c < 15:=by
 have:=aY.mp KW _ (dU (Dl h).1)
 simp only [bC,Bool.or_eq_true,decide_eq_true_eq,bp] at this
 exact ⟨fun hc=>this.1.resolve_left (Nat.not_le.mpr hc),this.2⟩
theorem nT:((List.range 14).all fun c=>M7.contains c)=true∧((List.range 79).all fun f=>Gj.contains f)=true∧(zp.all fun a=>Nat.ble 15 a&&Nat.blt a 1384)=true∧
  (Gj.all fun f=>(ph f).all fun a=>Nat.ble 15 a&&Nat.blt a 1384)=true:=⟨by decide +kernel,by decide +kernel,by decide +kernel,by decide +kernel⟩
theorem w1 {a:Nat} (h:(Nat.ble 15 a&&Nat.blt a 1384)=true):15≤a∧a < 1384:=by
 rw [bC] at h
 exact ⟨Nat.le_of_ble_eq_true h.1,Nat.blt_eq.mp h.2⟩
section
variable {prog:Program} {w:World} {g:Nat→Obj} {h:Heap} {mg mb:PySem.Str→Option Value}
theorem Dq {c:Nat} (hc:c < 14) (e:DJ (nh g (s0 c)) c=true):JA (A7 prog w g h mg mb) c:=by
 have S:Sub (nh g (s0 c)) (nh g zp):=Ie fun a ha=>List.mem_cons_of_mem _ (List.mem_flatMap.mpr ⟨c,fK.mp (aY.mp nT.1 c (List.mem_range.mpr hc)),ha⟩)
 unfold DJ zY at e
 simp only [bC,bp,Bool.not_eq_true',aY] at e
 obtain ⟨⟨⟨⟨⟨⟨⟨⟨⟨⟨⟨⟨⟨e1,e2⟩,e3⟩,e4⟩,e5⟩,e6⟩,e7⟩,e8⟩,e9⟩,e10⟩,e11⟩,e12⟩,e13⟩,e14⟩:=e
 refine ⟨?_,eE S e2,eE S e3,eE S e4,vS S e5,yb S e6,eE S e7,kj S e8,eE S e9,xe S e10,e11,w7 S e12,fun a x ha hx=>?_,fun m f x hm hx=>?_⟩
 ·obtain ⟨cd,h1,h2⟩:=any_some e1
  exact ⟨cd,rN S h1,h2⟩
 ·have:=e13 a ha
  rw [Au hx] at this
  exact eE S this
 ·have hmem:(m,f)∈(dz xh c).getD []:=by
   unfold mt at hm
   obtain ⟨l,hl,hm⟩:=kS.mp hm
   rw [hl]
   exact dU hm
  have:=e14 (m,f) hmem
  rw [Au hx] at this
  exact ⟨eE S this.1,kj S this.2⟩
theorem tx {M:Model} {A:Around} {E:Value→Shared→Prop} {s:Shared} {Q:Option (Array Value)→Shared→Prop} (q:Q none s):wpAny M A (seqItems? .none) Q E s:=by
 unfold seqItems?
 exact ac (al (al q))
theorem FK {K:Frag} {a:Nat} {vs:List Value} (e:Dj K a vs=true):∃ o xs n,K.lookup a=some o∧o.data=.seq xs n∧xs.toList=vs:=by
 obtain ⟨p,h,e⟩:=any_some e
 obtain ⟨o,ho,h⟩:=kS.mp h
 exact ⟨o,p.1,p.2,ho,Av h,bp.mp e⟩
noncomputable def N7 (W:Wd) (f:Nat) (v:Value):Prop:=∃ r:Option (Array Value),bR W W.F0 W.h0 (Ic f) (r.getD #[]).toList∧∀ (M:Model) (A:Around) (E:Value→Shared→Prop) (s:Shared) Q,(∀ b o,W.h0.get? b=some o→s.heap.get? b=some o)→Q r s→wpAny M A (seqItems? v) Q E s
theorem zh {W:Wd} {K:Frag} {f:Nat} {v:Value} {a:Addr} {ts:List T} {vs:List Value} (X:K.In W.h0) (e:(v==.ref a&&Dj K a vs)=true) (hd:Ic f=ts) (r:bR W W.F0 W.h0 ts vs):N7 W f v:=by
 obtain ⟨hv,hs⟩:=cz.mp e
 obtain ⟨o,xs,n,gg,hdd,hx⟩:=FK hs
 refine ⟨some xs,by rw [hd];rw [← hx] at r;exact r,fun M A E s Q hk q=>?_⟩
 rw [bp.mp hv]
 unfold seqItems?
 refine ac (wpAny_load (hk _ _ (X _ _ gg)) ?_)
 rw [hdd]
 exact al q
theorem ON {W:Wd} {K:Frag} {f:Nat} {v:Value} (hf:f < 79) (X:K.In W.h0) (e:Qe K f v=true):N7 W f v:=by
 by_cases h0:f=0
 ·rw [h0] at e ⊢;exact zh X e rfl (.cons .none .nil)
 by_cases h7:f=7
 ·rw [h7] at e ⊢;exact zh X e rfl (.cons (.bool false) .nil)
 by_cases h18:f=18
 ·rw [h18] at e ⊢;exact zh X e rfl (.cons .none (.cons .none .nil))
 rw [show v=.none from bp.mp (((av h0).trans ((av h7).trans (av h18))).symm.trans e)]
 exact ⟨none,by rw [L5 hf h0 h7 h18];exact .nil,fun M A E s Q hk q=>tx q⟩
theorem GP (hk:∀ a o,(∃ f,f < 79∧(nh g (ph f)).lookup a=some o)→h.get? a=some o) {f:Nat} (hf:f < 79) (e:Ja (nh g (ph f)) f=true) (hb:wT g f=IA f) :
  ∃ p b sc,(A7 prog w g h mg mb).src f=some (p,b,sc)∧K9 (A7 prog w g h mg mb) f p b sc:=by
 have X:(nh g (ph f)).In h:=fun a o q=>hk a o ⟨f,hf,q⟩
 have hg:(nh g (ph f)).lookup (xU f)=some (g (xU f)):=x7 (.head _)
 obtain ⟨fd,h1,e⟩:=any_some e
 rw [hg] at h1
 have h1:u8 (g (xU f)).data=some fd:=h1
 unfold wT at hb
 rw [h1] at hb
 obtain ⟨q,hs,hq⟩:=oK.mp hb.symm
 obtain ⟨e,e5⟩:=cz.mp e
 obtain ⟨e,e4⟩:=cz.mp e
 obtain ⟨e,e3⟩:=cz.mp e
 obtain ⟨e1,e2⟩:=cz.mp e
 exact ⟨q.1,q.2.1,q.2.2,hs,_,fd,X _ _ hg,Ei h1,(aw (·.1) hq).symm,(aw (·.2.1) hq).symm,(aw (·.2.2) hq).symm,List.isEmpty_iff.mp e1,bp.mp e2,bp.mp e3,codeRec_of X e4,ON (W:=A7 prog w g h mg mb) hf X e5⟩
theorem AO {l:List Value} (e:Jv l=true):∃ t u,l=[.str (jh 61) t,.str (jh 62) u]:=by
 obtain ⟨p,h,e⟩:=any_some e
 obtain ⟨e1,e2⟩:=cz.mp e
 obtain ⟨q,q1,q2⟩:=any_some e1
 obtain ⟨r,r1,r2⟩:=any_some e2
 exact ⟨q.2,r.2,by rw [xf h,F5 q1,F5 r1,bp.mp q2,bp.mp r2]⟩
theorem AU {o:Obj} (e:wc 346 o=true):∃ n t u,o=seqObj "tuple" #[.str (jh 61) t,.str (jh 62) u] n:=by
 obtain ⟨p,h,e⟩:=any_some (show ((zP o.data).any _)=true from e)
 obtain ⟨e,e4⟩:=cz.mp e
 obtain ⟨e,e3⟩:=cz.mp e
 obtain ⟨e1,e2⟩:=cz.mp e
 obtain ⟨t,u,e4⟩:=AO e4
 obtain ⟨c,d,dat,sl⟩:=o
 refine ⟨p.2,t,u,?_⟩
 rw [show c=.type "tuple" from bp.mp e1,show d=none from Option.isNone_iff_eq_none.mp e2,show sl=#[] from Array.isEmpty_iff.mp e3,show dat=_ from Av h,Array.toList_inj.mp (show p.1.toList=Array.toList #[.str (jh 61) t,.str (jh 62) u] from e4)]
theorem GW {o:Obj} (e:wc 682 o=true):∃ d cd sl,o=⟨.type "type",d,.cls cd,sl⟩:=by
 obtain ⟨e1,e2⟩:=cz.mp (show ((EK o.data).isSome&&(o.cls==.type "type"))=true from e)
 obtain ⟨cd,h⟩:=Option.isSome_iff_exists.mp e1
 obtain ⟨c,d,dat,sl⟩:=o
 exact ⟨d,cd,sl,by rw [show c=_ from bp.mp e2,show dat=_ from H4 h]⟩
theorem uj {h'1:Heap} {x:PySem.Str} {i:Int} (e:vn h'1 x i=true):∃ t,h'1.nsMap mainGlobals x=some (.int i t):=by
 obtain ⟨p,h,e⟩:=any_some e
 obtain ⟨v,hv,h⟩:=kS.mp h
 exact ⟨p.2,by rw [hv,JH h,bp.mp e]⟩
set_option tactic.hygienic true in
theorem Mm (g1:h.Ns mainGlobals mg) (g2:h.Ns builtinsNs mb) (lim:h.NoLimit) (x:yT h):∃ g,gZ (A7 prog w g h mg mb)∧(∀ p,p∈iL→mg p.2=some (.ref (xU p.1)))∧(∃ o,h.get? 346=some o):=by
 obtain ⟨h'1,g,keep,good,at_,facts,bods⟩:=x
 refine ⟨g,?_⟩
 unfold Fs at good
 simp only [bC] at good
 obtain ⟨⟨⟨⟨⟨⟨⟨⟨⟨d1,d2⟩,d3⟩,d5⟩,d6⟩,d7⟩,d8⟩,d9⟩,d10⟩,d11⟩:=good
 unfold jK at facts
 simp only [bC] at facts
 obtain ⟨⟨fC,fF⟩,fE⟩:=facts
 have emg:mg=h'1.nsMap mainGlobals:=g1.eq_nsMap.trans ((Heap.Ns.of_isNs d1).keeps keep).eq_nsMap.symm
 have emb:mb=h'1.nsMap builtinsNs:=g2.eq_nsMap.trans ((Heap.Ns.of_isNs d2).keeps keep).eq_nsMap.symm
 have H:∀ a,(Nat.ble 15 a&&Nat.blt a 1384)=true→ju (g a)=true→h.get? a=some (g a):=fun a e l=>keep _ _ (at_ a (w1 e).1 (w1 e).2 l)
 obtain ⟨kn,kt,ku,hk⟩:=AU (aY.mp fE 346 (by decide))
 have hk:h.get? 346=some (seqObj "tuple" #[.str (jh 61) kt,.str (jh 62) ku] kn):=by rw [← hk];exact H 346 (by decide) (by rw [hk];rfl)
 obtain ⟨d682,cd682,s682,o682⟩:=GW (aY.mp fE 682 (by decide))
 have K:(nh g zp).In h:=fun a o e=>by
  obtain ⟨h1,rfl⟩:=lu e
  refine H a (aY.mp nT.2.2.1 a h1) ?_
  rcases aU.mp h1 with rfl | h2
  ·rw [o682];rfl
  ·obtain ⟨c,hc,ha⟩:=List.mem_flatMap.mp h2
   exact zv (cz.mp (aY.mp fC c hc)).1 ha
 have fns:∀ p,p∈iL→mg p.2=some (.ref (xU p.1)):=fun p hp=>(congrFun emg _).trans (bp.mp (aY.mp d8 p hp))
 have l682:(nh g zp).lookup 682=some (g 682):=x7 (.head _)
 rw [o682] at l682
 have sys:∃ o,h.get? sysModules=some o:=by
  induction q:h'1.get? sysModules with
  | none=>rw [q] at d3;exact bt d3
  | some o=>exact ⟨o,keep _ _ q⟩
 refine ⟨⟨g1,g2,lim,fun x t ht=>?_,fun a ha=>?_,sys,K,fun c hc=>Dq hc (cz.mp (aY.mp fC c (fK.mp (aY.mp nT.1 c (List.mem_range.mpr hc))))).2,(Dg _).1,(Dg _).2,?_,?_,fun x i r hx=>fns _ (dU (EE hx).2),fun x c i hx=>?_,fun f hf=>?_,fun x c i hx=>(EU hx).2,fun b hb=>?_,fun b hb=>?_,?_⟩,fns,_,hk⟩
 ·replace ht:sw x=some t:=ht
  unfold sw at ht
  split at ht
  ·rename_i e;subst e;obtain rfl:=az ht
   obtain ⟨u,hu⟩:=uj d5
   exact ⟨_,(congrFun emg _).trans hu,.int _ u⟩
  ·split at ht
   ·rename_i e;subst e;obtain rfl:=az ht
    obtain ⟨u,hu⟩:=uj d6
    exact ⟨_,(congrFun emg _).trans hu,.int _ u⟩
   ·split at ht
    ·rename_i e;subst e;obtain rfl:=az ht
     exact ⟨_,(congrFun emg _).trans (bp.mp d7),.tup (show Ln 346 from rfl) hk (by decide) (.cons (.str kt rfl) (.cons (.str ku rfl) .nil))⟩
    ·exact nn ht
 ·obtain rfl:a=346:=ha
  exact ⟨_,hk⟩
 ·show ((nh g zp).lookup 682).map (·.cls)=_
  rw [l682];rfl
 ·refine ⟨cd682,?_⟩
  show clsIn (nh g zp) 682=_
  unfold clsIn
  rw [l682]
 ·have:=aY.mp d9 (c,x) (dU (Dl hx).2)
  exact ⟨(congrFun emg x).trans (bp.mp this),(EU hx).1⟩
 ·have hm:=fK.mp (aY.mp nT.2.1 f (List.mem_range.mpr hf))
  refine GP (fun a o ⟨f',hf',q⟩=>?_) hf (cz.mp (aY.mp fF f hm)).2 (List.map_inj_left.mp bods f hm)
  obtain ⟨h1,rfl⟩:=lu q
  have hm':=fK.mp (aY.mp nT.2.1 f' (List.mem_range.mpr hf'))
  exact H a (aY.mp (aY.mp nT.2.2.2 f' hm') a h1) (zv (cz.mp (aY.mp fF f' hm')).1 h1)
 ·have:=aY.mp d10 b (by revert b;decide)
  rw [bC,bp,bp] at this
  exact ⟨(congrFun emg _).trans this.1,(congrFun emb _).trans this.2⟩
 ·have:=aY.mp d11 b hb
  rw [bC,bp,bp] at this
  exact ⟨(congrFun emg _).trans this.1,(congrFun emb _).trans this.2⟩
 ·have:=aY.mp d10 "isinstance" (by decide)
  rw [bC,bp,bp] at this
  exact ⟨(congrFun emg _).trans this.1,(congrFun emb _).trans this.2⟩
end
end
end Nz
namespace Nz.Nc
open PySem
variable {n:Nat} {Q:List T→Env→Prop} {ρ:Env} {g:m8} {elt:SE} {C:aC} {xs:List T} {α σ ν κ:Type} {a b base S hs bs:List Int} {rs:List bj} {p:jU} {P:List bj→List Int→List (Int×Int)→List (Int×Int)→List ((Int×Int)×Int)→List ((Int×Int)×Int)→Bool→Prop}
section
@[irreducible] noncomputable def CN (n:Nat):aC:=ud f0 n
theorem ao {f:Nat} {fd:aG} {ts:List T} {r:Option T} {Q:T→Option T→Prop} (h1:f0 f=some fd) (h2:fd.ref.isSome=r.isSome) (h3:ja fd.ref fd.params (sd (uK fd) ts fd.dflts) r=some ρ)
  (h:fd.body (CN n) (ρ++c9 fd.locals []) fun fl ρ=>nZ fd.ref ρ fun r'=>Q (Bz fl) r'):CN (n+1) f ts r Q:=by
 unfold CN at h ⊢
 show fX (f0 f) _
 exact ab h1 ⟨h2,ab h3 h⟩
theorem fZ {b:Bool} {p q:Prop} (h1:b=true→p) (h2:b=false→q):bq b p q:=match b,h1,h2 with
 | true,h,_=>h rfl
 | false,_,h=>h rfl
theorem fJ {b:Bool} {p q:Prop} (e:b=false) (h:q):bq b p q:=by rw [e];exact h
theorem ff {b:Bool} {p q:Prop} (e:b=true) (h:p):bq b p q:=by rw [e];exact h
theorem cK {ok:Env→Prop} {ifs:SB} {acc:List T} (h:Q acc ρ):ce ok g ifs elt C [] ρ acc Q:=by rw [lz];exact h
theorem dT {ok:Env→Prop} {ifs:SB} {x:T} {acc:List T} (h:eD g x ρ fun ρ=>ifs C ρ fun b ρ=>bq b (elt C ρ fun t ρ=>ok ρ∧ce ok g ifs elt C xs ρ (acc++[t]) Q) (ok ρ∧ce ok g ifs elt C xs ρ acc Q)):ce ok g ifs elt C (x::xs) ρ acc Q:=by rw [j7];exact h
theorem mf {ok:Env→Prop} {ifs:SB} {acc ys:List T} (e:xs=ys) (h:ce ok g ifs elt C ys ρ acc Q):ce ok g ifs elt C xs ρ acc Q:=by rw [e];exact h
theorem Im {b:Bool} {p q:Prop} (h:b=true→q→p) (r:q):bq b p q:=fZ (fun e=>h e r) fun _=>r
theorem BO {ok:Env→Prop} {ifs:SB} {k v:SE} {acc:List (bL×T)} {Q:List (bL×T)→Env→Prop} (h:Q acc ρ):cS ok g ifs k v C [] ρ acc Q:=by rw [jv];exact h
theorem uD {b:SS} {Q:Fl→Env→Prop} (h:Q .next ρ):eY g b C [] ρ Q:=by rw [oj];exact h
theorem re {b:SS} {x:T} {Q:Fl→Env→Prop} (h:eD g x ρ fun ρ=>b C ρ fun fl ρ=>match fl with
   | .next=>eY g b C xs ρ Q
   | .cont=>eY g b C xs ρ Q
   | .brk=>Q .next ρ
   | .ret t=>Q (.ret t) ρ):eY g b C (x::xs) ρ Q:=by rw [lE];exact h
theorem Aa (mk:α→T) (env:σ→Env) (I:List α→σ→Prop) (R:T→σ→Prop) {b:SS} {Q:Fl→Env→Prop}
  (step:∀ x xs s,I (x::xs) s→∀ K:Fl→Env→Prop,(∀ s',I xs s'→K .next (env s'))→(∀ s',I xs s'→K .cont (env s'))→(∀ t s',R t s'→K (.ret t) (env s'))→eD g (mk x) (env s) fun ρ=>b C ρ K)
  (ret:∀ t s,R t s→Q (.ret t) (env s)) (fin:∀ s,I [] s→Q .next (env s)) (xs:List α) (s:σ) (h:I xs s):eY g b C (xs.map mk) (env s) Q:=by
 induction xs generalizing s with
 | nil=>rw [List.map_nil,oj];exact fin s h
 | cons x xs ih=>
  rw [c8,lE]
  exact step x xs s h _ ih ih ret
theorem cv (mk:α→T) (env:σ→Env) (I:List α→σ→Prop) {b:SS} {Q:Fl→Env→Prop}
  (step:∀ x xs s,I (x::xs) s→∀ K:Fl→Env→Prop,(∀ s',I xs s'→K .next (env s'))→eD g (mk x) (env s) fun ρ=>b C ρ K)
  (fin:∀ s,I [] s→Q .next (env s)) (xs:List α) (s:σ) (h:I xs s):eY g b C (xs.map mk) (env s) Q:=
 Aa mk env I (fun _ _=>False) (fun x xs s h K k _ _=>step x xs s h K k) (fun _ _=>False.elim) fin xs s h
theorem z0 (env:σ→Env) (I:List T→σ→Prop) {b:SS} {Q:Fl→Env→Prop}
  (step:∀ x xs s,I (x::xs) s→∀ K:Fl→Env→Prop,(∀ s',I xs s'→K .next (env s'))→eD g x (env s) fun ρ=>b C ρ K)
  (fin:∀ s,I [] s→Q .next (env s)) (xs:List T) (s:σ) (h:I xs s):eY g b C xs (env s) Q:=by
 have:=cv id env I step fin xs s h
 rwa [List.map_id] at this
theorem lC (env:σ→Env) (I:σ→Prop) (μ:σ→Nat) {c:SB} {b:SS} {Q:Fl→Env→Prop}
  (step:∀ s,I s→∀ K:Fl→Env→Prop,(∀ s',I s'→μ s' < μ s→K .next (env s'))→(∀ s',I s'→μ s' < μ s→K .cont (env s'))→c C (env s) fun t ρ=>bq t (b C ρ K) (Q .next ρ)) (s:σ) (h:I s):∃ m,kq c b C m (env s) Q:=by
 have go:∀ m s,μ s < m→I s→kq c b C m (env s) Q:=by
  intro m
  induction m with
  | zero=>intro s h;exact absurd h (Nat.not_lt_zero _)
  | succ m ih=>
   intro s hm hI
   exact step s hI _ (fun s' i l=>ih s' (gI l (Nat.le_of_lt_succ hm)) i) (fun s' i l=>ih s' (gI l (Nat.le_of_lt_succ hm)) i)
 exact ⟨μ s+1,go _ s (Nat.lt_succ_self _) h⟩
theorem tT (mk:α→T) (env:σ→Env) (I:List α→List T→σ→Prop) {ok:Env→Prop} {ifs:SB}
  (hok:∀ s,ok (env s))
  (step:∀ x xs acc s,I (x::xs) acc s→∀ K:Option T→Env→Prop,(∀ t s',I xs (acc++[t]) s'→K (some t) (env s'))→(∀ s',I xs acc s'→K none (env s'))→
   eD g (mk x) (env s) fun ρ=>ifs C ρ fun b ρ=>bq b (elt C ρ fun t ρ=>K (some t) ρ) (K none ρ))
  (fin:∀ acc s,I [] acc s→Q acc (env s)) (xs:List α) (acc:List T) (s:σ) (h:I xs acc s):ce ok g ifs elt C (xs.map mk) (env s) acc Q:=by
 induction xs generalizing acc s with
 | nil=>rw [List.map_nil,lz];exact fin acc s h
 | cons x xs ih=>
  rw [c8,j7]
  exact step x xs acc s h (fun o ρ=>ok ρ∧ce ok g ifs elt C (xs.map mk) ρ (o.elim acc fun t=>acc++[t]) Q) (fun t s' h'=>⟨hok s',ih _ s' h'⟩) fun s' h'=>⟨hok s',ih _ s' h'⟩
theorem eN {β:Type} (mk:α→T) (el:β→T) (env:σ→Env) (I:List α→List β→σ→Prop) {ok:Env→Prop} {ifs:SB}
  (hok:∀ s,ok (env s))
  (step:∀ x xs bs s,I (x::xs) bs s→∀ K:Option T→Env→Prop,(∀ b s',I xs (bs++[b]) s'→K (some (el b)) (env s'))→(∀ s',I xs bs s'→K none (env s'))→
   eD g (mk x) (env s) fun ρ=>ifs C ρ fun b ρ=>bq b (elt C ρ fun t ρ=>K (some t) ρ) (K none ρ))
  (xs:List α) (s:σ) (h:I xs [] s) (fin:∀ bs s,I [] bs s→Q (bs.map el) (env s)):ce ok g ifs elt C (xs.map mk) (env s) [] Q:=by
 refine tT mk env (fun l acc s=>∃ bs,acc=bs.map el∧I l bs s) hok (fun x l acc s h K k1 k2=>?_) (fun acc s h=>?_) xs [] s ⟨[],rfl,h⟩
 ·obtain ⟨bs,rfl,i⟩:=h
  exact step x l bs s i K (fun b s' i'=>k1 _ s' ⟨bs++[b],by rw [dK];rfl,i'⟩) fun s' i'=>k2 s' ⟨bs,rfl,i'⟩
 ·obtain ⟨bs,rfl,i⟩:=h
  exact fin bs s i
theorem tX (mk:α→T) (f:α→Option T) (env:σ→Env) {ok:Env→Prop} {ifs:SB} (hok:∀ s,ok (env s)) (xs:List α)
  (step:∀ x∈xs,∀ s,∀ K:Option T→Env→Prop,(∀ s',K (f x) (env s'))→eD g (mk x) (env s) fun ρ=>ifs C ρ fun b ρ=>bq b (elt C ρ fun t ρ=>K (some t) ρ) (K none ρ))
  (s:σ) (fin:∀ s,Q (xs.filterMap f) (env s)):ce ok g ifs elt C (xs.map mk) (env s) [] Q:=by
 refine tT mk env (fun l acc _=>acc++l.filterMap f=xs.filterMap f∧∀ x∈l,x∈xs) hok (fun x l acc s h K k1 k2=>?_) (fun acc s h=>?_) xs [] s ⟨rfl,fun _ h=>h⟩
 ·refine step x (h.2 x (.head _)) s K fun s'=>?_
  have h1:=h.1
  rw [List.filterMap_cons] at h1
  induction q:f x with
  | none=>rw [q] at h1;exact k2 s' ⟨h1,fun y m=>h.2 y (.tail _ m)⟩
  | some t=>rw [q] at h1;exact k1 t s' ⟨by rw [List.append_assoc];exact h1,fun y m=>h.2 y (.tail _ m)⟩
 ·have:=h.1
  rw [List.filterMap_nil,cj] at this
  subst this;exact fin s
theorem qP {β:Type} (f:α→β) (xs:List α):xs.filterMap (fun x=>some (f x))=xs.map f:=by
 induction xs with
 | nil=>rfl
 | cons x xs ih=>exact (List.filterMap_cons_some (f:=fun x=>some (f x)) rfl).trans (aw (f x::·) ih)
theorem gi {β:Type} (p:α→Bool) (f:α→β) (xs:List α):xs.filterMap (fun x=>if p x then some (f x) else none)=(xs.filter p).map f:=by
 induction xs with
 | nil=>rfl
 | cons x xs ih=>cases q:p x<;>simp [q,ih]
theorem bc (mk:α→T) (f:α→T) (env:σ→Env) {ok:Env→Prop} (hok:∀ s,ok (env s)) (xs:List α)
  (step:∀ x∈xs,∀ s,∀ K:T→Env→Prop,(∀ s',K (f x) (env s'))→eD g (mk x) (env s) fun ρ=>elt C ρ K)
  (s:σ) (fin:∀ s,Q (xs.map f) (env s)):ce ok g aH elt C (xs.map mk) (env s) [] Q:=by
 refine tX mk (fun x=>some (f x)) env hok xs (fun x m s K k=>?_) s (fun s=>?_)
 ·exact step x m s (fun t ρ=>K (some t) ρ) k
 ·rw [qP];exact fin s
theorem bg (mk:α→T) (p:α→Bool) (f:α→T) (env:σ→Env) (sx:α→σ) {ok:Env→Prop} {ifs:SB} (hok:∀ s,ok (env s)) (xs:List α)
  (step:∀ x∈xs,∀ s,∀ K:Bool→Env→Prop,K (p x) (env (sx x))→eD g (mk x) (env s) fun ρ=>ifs C ρ K)
  (val:∀ x∈xs,p x=true→∀ K:T→Env→Prop,(∀ s',K (f x) (env s'))→elt C (env (sx x)) K)
  (s:σ) (fin:∀ s,Q ((xs.filter p).map f) (env s)):ce ok g ifs elt C (xs.map mk) (env s) [] Q:=by
 refine tX mk (fun x=>if p x then some (f x) else none) env hok xs (fun x m s K k=>?_) s (fun s=>?_)
 ·refine step x m s (fun b ρ=>bq b (elt C ρ fun t ρ=>K (some t) ρ) (K none ρ)) ?_
  induction q:p x with
  | false=>have:=k (sx x);rw [q] at this;exact this
  | true=>
   refine val x m q (fun t ρ=>K (some t) ρ) fun s''=>?_
   have:=k s'';rw [q] at this;exact this
 ·rw [gi];exact fin s
theorem jR (bs:List α) (x:α):(bs++[x]).length=bs.length+1:=bS
theorem Fh {bs:List α} {x:α} {m k:Nat} (h:bs.length+(m+1)=k):(bs++[x]).length+m=k:=by rw [jR];lia
theorem lY {P:α→Prop} {bs:List α} {x:α} (h:∀ b∈bs,P b) (hx:P x):∀ b∈bs++[x],P b:=fun _ hb=>(cD.mp hb).elim (h _) fun hb=>by rw [aV.mp hb];exact hx
end
section
structure KE (κ:Type) where
 f:κ→bL
 t:κ→T
 inj:∀ a b,f a=f b→a=b
 kd:Nat
 hk:∀ k,(f k).kind=kd
 kt:∀ k,fQ (t k)=some (f k)
 tk:∀ k,cb (f k)=t k
noncomputable abbrev kI:KE Int:=⟨.I,.int,fun _ _ h=>bL.I.inj h,0,fun _=>rfl,fun _=>rfl,fun _=>rfl⟩
noncomputable abbrev kP:KE (Int×Int):=⟨fun p=>.T [p.1,p.2],fun p=>.tup [.int p.1,.int p.2],fun a b h=>by
 have:=bL.T.inj h
 simp only [List.cons.injEq,and_true] at this
 exact Prod.ext this.1 this.2,2,fun _=>rfl,fun _=>rfl,fun _=>rfl⟩
section
variable {κ ν:Type} [DecidableEq κ]
noncomputable def b7:List (κ×ν)→κ→Option ν
 | [],_=>none
 | p::r,k=>if p.1=k then some p.2 else b7 r k
noncomputable def eJ:List (κ×ν)→κ→ν→List (κ×ν)
 | [],k,v=>[(k,v)]
 | p::r,k,v=>if p.1=k then (p.1,v)::r else p::eJ r k v
noncomputable abbrev keys (m:List (κ×ν)):List κ:=m.map (·.1)
noncomputable def iJ (l:List (κ×ν)):List (κ×ν):=l.foldl (fun m p=>eJ m p.1 p.2) []
theorem mj (p:κ×ν) (r:List (κ×ν)) (k:κ):b7 (p::r) k=if p.1=k then some p.2 else b7 r k:=rfl
theorem Ni (p:κ×ν) (r:List (κ×ν)) (k:κ) (v:ν):eJ (p::r) k v=if p.1=k then (p.1,v)::r else p::eJ r k v:=rfl
theorem pT {P:List (κ×ν)→Option ν→Prop} {k:κ} (h0:P [] none) (h1:∀ w r,P ((k,w)::r) (some w)) (h2:∀ p r,p.1≠k→P r (b7 r k)→P (p::r) (b7 r k)) (m:List (κ×ν)):P m (b7 m k):=by
 induction m with
 | nil=>exact h0
 | cons p r ih=>
  show P _ (if p.1=k then some p.2 else b7 r k)
  exact iteInduction (fun e=>by subst e;exact h1 p.2 r) fun e=>h2 p r e ih
theorem gQ {P:List (κ×ν)→List (κ×ν)→Prop} {k:κ} {v:ν} (h0:P [] [(k,v)]) (h1:∀ w r,P ((k,w)::r) ((k,v)::r)) (h2:∀ p r,p.1≠k→P r (eJ r k v)→P (p::r) (p::eJ r k v)) (m:List (κ×ν)):P m (eJ m k v):=by
 induction m with
 | nil=>exact h0
 | cons p r ih=>
  show P _ (if p.1=k then (p.1,v)::r else p::eJ r k v)
  exact iteInduction (fun e=>by subst e;exact h1 p.2 r) fun e=>h2 p r e ih
theorem jI {m:List (κ×ν)} {k:κ}:b7 m k=none↔k∉keys m:=
 pT (P:=fun m o=>o=none↔k∉keys m) ⟨fun _ h=>absurd h List.not_mem_nil,fun _=>rfl⟩ (fun w r=>⟨fun h=>nn h.symm,fun h=>absurd (.head _) h⟩)
  (fun p r e ih=>ih.trans ⟨fun h c=>(aU.mp c).elim (fun d=>e d.symm) h,fun h c=>h (.tail _ c)⟩) m
theorem fp {m:List (κ×ν)} {k:κ}:(b7 m k).isSome=true↔k∈keys m:=Option.isSome_iff_ne_none.trans ((not_congr jI).trans Classical.not_not)
theorem cY {m:List (κ×ν)} {k:κ} {v:ν} (h:b7 m k=some v):(k,v)∈m:=
 pT (P:=fun m o=>o=some v→(k,v)∈m) nn (fun w r e=>by rw [az e];exact .head _) (fun p r _ ih h=>.tail _ (ih h)) m h
theorem dw {m:List (κ×ν)} (nd:(keys m).Nodup) {k:κ} {v:ν} (h:(k,v)∈m):b7 m k=some v:=
 pT (P:=fun m o=>(keys m).Nodup→(k,v)∈m→o=some v) (fun _ h=>nomatch h)
  (fun w r nd h=>(aU.mp h).elim (fun e=>by rw [(Prod.mk.inj e).2]) fun h=>absurd (List.mem_map_of_mem (f:=Prod.fst) h) (cO.mp nd).1)
  (fun p r e ih nd h=>ih (cO.mp nd).2 ((aU.mp h).resolve_left fun c=>e (c▸rfl))) m nd h
theorem DK (m:List (κ×ν)) (k:κ) (v:ν) (k':κ):b7 (eJ m k v) k'=if k=k' then some v else b7 m k':=
 gQ (P:=fun m m'=>b7 m' k'=if k=k' then some v else b7 m k') rfl
  (fun w r=>by
   rw [mj,mj]
   by_cases q:k=k'
   ·rw [au q,au q]
   ·rw [av q,av q,av q])
  (fun p r e ih=>by
   rw [mj,mj,ih]
   by_cases q:p.1=k'
   ·rw [au q,av fun c=>e (q.trans c.symm),au q]
   ·rw [av q,av q]) m
theorem jM {m:List (κ×ν)} {k:κ} (v:ν) (h:k∉keys m):eJ m k v=m++[(k,v)]:=
 gQ (P:=fun m m'=>k∉keys m→m'=m++[(k,v)]) (fun _=>rfl) (fun w r h=>absurd (.head _) h) (fun p r _ ih h=>aw (p::·) (ih fun c=>h (.tail _ c))) m h
theorem ej {m:List (κ×ν)} {k:κ} {v:ν} {x:κ}:x∈keys (eJ m k v)↔x∈keys m∨x=k:=
 gQ (P:=fun m m'=>x∈keys m'↔x∈keys m∨x=k) ⟨fun h=>.inr (aV.mp h),fun h=>h.elim (fun h=>nomatch h) fun e=>e▸.head _⟩
  (fun w r=>⟨.inl,fun h=>h.elim id fun e=>e▸.head _⟩) (fun p r _ ih=>aU.trans ((or_congr Iff.rfl ih).trans (or_assoc.symm.trans (or_congr aU.symm Iff.rfl)))) m
theorem eA {m:List (κ×ν)} {k:κ} {v:ν} (h:(keys m).Nodup):(keys (eJ m k v)).Nodup:=
 gQ (P:=fun m m'=>(keys m).Nodup→(keys m').Nodup) (fun _=>cO.mpr ⟨List.not_mem_nil,cJ⟩) (fun _ _ h=>h)
  (fun p r e ih nd=>cO.mpr ⟨fun c=>(ej.mp c).elim (cO.mp nd).1 e,ih (cO.mp nd).2⟩) m h
theorem bF (m:List (κ×ν)):(keys m).length=m.length:=ba _
theorem iA (m:List (κ×ν)) (k:κ) (v:ν):m.length≤(eJ m k v).length∧(eJ m k v).length≤m.length+1:=
 gQ (P:=fun m m'=>m.length≤m'.length∧m'.length≤m.length+1) ⟨cr _,Nat.le_refl _⟩ (fun _ _=>⟨Nat.le_refl _,Nat.le_succ _⟩) (fun _ _ _ ih=>⟨gC ih.1,gC ih.2⟩) m
noncomputable def pf (m:List (κ×ν)) (l:List (κ×ν)):List (κ×ν):=l.foldl (fun m p=>eJ m p.1 p.2) m
theorem A2 {l m:List (κ×ν)} (h:(keys (m++l)).Nodup):pf m l=m++l:=by
 induction l generalizing m with
 | nil=>exact (cj m).symm
 | cons p l ih=>
  have hp:p.1∉keys m:=fun c=>by rw [keys,dK,cF] at h;exact h.2.2 _ c _ (.head _) rfl
  show pf (eJ m p.1 p.2) l=_
  rw [jM _ hp]
  rw [show m++p::l=(m++[p])++l from by rw [List.append_assoc];rfl] at h ⊢
  exact ih h
theorem iE {l:List (κ×ν)} (h:(keys l).Nodup):iJ l=l:=A2 (m:=[]) h
theorem xS {l m:List (κ×ν)} (h:(keys m).Nodup):(keys (pf m l)).Nodup:=by
 induction l generalizing m with
 | nil=>exact h
 | cons p l ih=>exact ih (eA h)
theorem g9 (l:List (κ×ν)):(keys (iJ l)).Nodup:=xS (m:=[]) cJ
theorem Cs (l m:List (κ×ν)):(pf m l).length≤m.length+l.length:=by
 induction l generalizing m with
 | nil=>exact Nat.le_refl _
 | cons p l ih=>exact aI (ih (m:=eJ m p.1 p.2)) (aI (Nat.add_le_add_right (iA m p.1 p.2).2 _) (er (Nat.succ_add_eq_add_succ m.length l.length)))
theorem j9 (l:List (κ×ν)):(iJ l).length≤l.length:=by
 have:=Cs l ([]:List (κ×ν));rwa [List.length_nil,Nat.zero_add] at this
theorem xI {m:List (κ×ν)} {k:κ} {v:ν} {p:κ×ν} (h:p∈eJ m k v):p∈m∨p=(k,v):=
 gQ (P:=fun m m'=>p∈m'→p∈m∨p=(k,v)) (fun h=>.inr (aV.mp h)) (fun w r h=>(aU.mp h).elim .inr fun h=>.inl (.tail _ h))
  (fun q r _ ih h=>(aU.mp h).elim (fun e=>.inl (e▸.head _)) fun h=>(ih h).imp (.tail _) id) m h
theorem BZ {l m:List (κ×ν)} {p:κ×ν} (h:p∈pf m l):p∈m∨p∈l:=by
 induction l generalizing m with
 | nil=>exact .inl h
 | cons q l ih=>exact (ih h).elim (fun h=>(xI h).imp id fun (e:p=q)=>e▸.head _) fun h=>.inr (.tail _ h)
theorem tQ {l:List (κ×ν)} {p:κ×ν} (h:p∈iJ l):p∈l:=(BZ h).resolve_left (fun h=>nomatch h)
theorem Mp {l m:List (κ×ν)} {k:κ}:k∈keys (pf m l)↔k∈keys m∨k∈keys l:=by
 induction l generalizing m with
 | nil=>exact ⟨.inl,fun h=>h.resolve_right fun h=>nomatch h⟩
 | cons p l ih=>exact (ih (m:=eJ m p.1 p.2)).trans ((or_congr ej Iff.rfl).trans (or_assoc.trans (or_congr Iff.rfl aU.symm)))
noncomputable def em (K:KE κ) (vf:ν→T) (m:List (κ×ν)):List (bL×T):=m.map fun p=>(K.f p.1,vf p.2)
noncomputable abbrev D (K:KE κ) (vf:ν→T) (m:List (κ×ν)):T:=.dict (em K vf m)
variable (K:KE κ) (vf:ν→T)
theorem rY (m:List (κ×ν)) (k:κ):tR (K.f k) (em K vf m)=true:=
 aY.mpr fun x hx=>by
  obtain ⟨p,_,rfl⟩:=bo.mp hx
  exact bp.mpr ((K.hk _).trans (K.hk k).symm)
theorem qb (m:List (κ×ν)) (k:κ):gL (em K vf m) (K.f k)=(b7 m k).map vf:=
 pT (P:=fun m o=>gL (em K vf m) (K.f k)=o.map vf) rfl
  (fun w r=>by show ((List.find? _ ((K.f k,vf w)::em K vf r)).map _)=_;rw [List.find?_cons_of_pos (p:=fun p:bL×T=>decide (p.1=K.f k)) (br rfl)];rfl)
  (fun p r e ih=>by show ((List.find? _ ((K.f p.1,vf p.2)::em K vf r)).map _)=_;rw [List.find?_cons_of_neg (p:=fun p:bL×T=>decide (p.1=K.f k)) fun c=>e (K.inj _ _ (bI c))];exact ih) m
theorem DQ {a:bL} {w v:T} {r:List (bL×T)} (h:∀ q∈r,¬ q.1=a):g5 ((a,w)::r) a v=(a,v)::r:=by
 unfold g5
 rw [au (by rw [List.any_cons,br rfl];rfl),c8,au rfl]
 exact aw (_::·) ((iv fun q hq=>av (h q hq)).trans (List.map_id _))
theorem BI {a:bL} {v:T} {p:bL×T} {r:List (bL×T)} (e:¬ p.1=a):g5 (p::r) a v=p::g5 r a v:=by
 unfold g5
 rw [List.any_cons,eK e,Bool.false_or]
 by_cases h:r.any (fun p=>decide (p.1=a))=true
 ·rw [au h,au h,c8,av e]
 ·rw [av h,av h];rfl
theorem I0 (m:List (κ×ν)) (nd:(keys m).Nodup) (k:κ) (v:ν):g5 (em K vf m) (K.f k) (vf v)=em K vf (eJ m k v):=
 gQ (P:=fun m m'=>(keys m).Nodup→g5 (em K vf m) (K.f k) (vf v)=em K vf m') (fun _=>rfl)
  (fun w r nd=>DQ fun q hq c=>by
   obtain ⟨p,hp,rfl⟩:=bo.mp hq
   exact (cO.mp nd).1 (show k∈r.map Prod.fst from K.inj p.1 k c▸List.mem_map_of_mem (f:=Prod.fst) hp))
  (fun p r e ih nd=>(BI (p:=(K.f p.1,vf p.2)) fun c=>e (K.inj _ _ c)).trans (aw (_::·) (ih (cO.mp nd).2))) m nd
theorem rm {m:List (κ×ν)} (nd:(keys m).Nodup) (hl:m.length < SZ) (k:κ) (v:ν):lr (em K vf m) (K.f k) (vf v)=some (em K vf (eJ m k v)):=by
 unfold lr
 rw [rY,I0 K vf m nd]
 rw [au]
 simp [em,hl]
theorem gj {m:List (κ×ν)} (nd:(keys m).Nodup) (hl:m.length < SZ) (k:κ) (v:ν):j5 (D K vf m) (K.t k) (vf v)=some (D K vf (eJ m k v)):=by
 show ((fQ (K.t k)).bind fun k=>(lr (em K vf m) k (vf v)).map T.dict)=_
 rw [K.kt,fN,rm K vf nd hl];rfl
theorem C5 (m:List (κ×ν)) (k:κ):O3 (K.t k) (D K vf m)=some (b7 m k).isSome:=by
 show ((fQ (K.t k)).bind fun k=>if tR k (em K vf m) then some (gL (em K vf m) k).isSome else none)=_
 rw [K.kt,fN,rY,au rfl,qb,Option.isSome_map]
theorem jJ (m:List (κ×ν)) (k:κ):kD .In (K.t k) (D K vf m)=some (b7 m k).isSome:=C5 K vf m k
theorem qw (m:List (κ×ν)) (k:κ):kD .NotIn (K.t k) (D K vf m)=some (!(b7 m k).isSome):=aw (Option.map (!·)) (C5 K vf m k)
theorem bE {m:List (κ×ν)} {k:κ} {v:ν} (h:b7 m k=some v):getItem (D K vf m) (K.t k)=some (vf v):=by
 show ((fQ (K.t k)).bind fun k=>if tR k (em K vf m) then gL (em K vf m) k else none)=_
 rw [K.kt,fN,rY,au rfl,qb,h];rfl
theorem lJ (m:List (κ×ν)) (k:κ) (d:T):OF .get (D K vf m) [K.t k,d]=some (((b7 m k).map vf).getD d):=by
 show ((fQ (K.t k)).bind fun k=>if tR k (em K vf m) then some ((gL (em K vf m) k).getD d) else none)=_
 rw [K.kt,fN,rY,au rfl,qb]
theorem Ef (m:List (κ×ν)):items (D K vf m)=some ((keys m).map K.t):=by
 show some (((em K vf m).map fun p=>cb p.1))=some ((m.map (·.1)).map K.t)
 unfold em
 rw [cp,cp]
 exact aw some (iv fun p _=>K.tk _)
theorem Nh {o:ji} (m:List (κ×ν)) (h:iV o ρ=none):fW o ρ (D K vf m)=some ((keys m).map K.t):=by
 unfold fW;rw [h];exact Ef K vf m
theorem Ke (m:List (κ×ν)):bi .len (D K vf m)=some (.int m.length):=by
 exact aw (fun n:Nat=>some (T.int n)) (ba _)
theorem ES (m:List (κ×ν)):rT (D K vf m)=some (!m.isEmpty):=by
 induction m<;>rfl
theorem D9 {m m' l:Nat} (h:m'≤m+1) (hl:m+(l+1)≤SZ):m < SZ∧m'+l≤SZ:=by lia
theorem CS (l m:List (κ×ν)) (nd:(keys m).Nodup) (hl:m.length+l.length≤SZ):lD (l.map fun p=>(K.t p.1,vf p.2)) (em K vf m)=some (em K vf (pf m l)):=by
 induction l generalizing m with
 | nil=>rfl
 | cons p l ih=>
  have hl:=D9 (iA m p.1 p.2).2 hl
  show ((fQ (K.t p.1)).bind fun k=>(lr (em K vf m) k (vf p.2)).bind fun d=>lD (l.map _) d)=_
  rw [K.kt,fN,rm K vf nd hl.1,fN,ih _ (eA nd) hl.2]
  rfl
theorem wN {β:Type} (f g:β→T) (l:List β):fH (l.map fun p=>.tup [f p,g p])=some (l.map fun p=>(f p,g p)):=by
 induction l with
 | nil=>rfl
 | cons p l ih=>rw [c8,fH,ih];rfl
theorem i4 (l:List (κ×ν)) (hl:l.length≤SZ):bi .dict (.list (l.map fun p=>.tup [K.t p.1,vf p.2]))=some (D K vf (iJ l)):=by
 show ((fH _).bind fun ps=>lD ps []).map T.dict=_
 rw [wN,fN,show ([]:List (bL×T))=em K vf [] from rfl,CS K vf l [] cJ (by simpa using hl)]
 rfl
theorem q5 (mk:α→T) (f:α→Option (κ×ν)) (env:σ→Env) {ok:Env→Prop} {ifs:SB} {ek ev:SE} {Q:List (bL×T)→Env→Prop} (hok:∀ s,ok (env s)) (xs:List α) (hl:xs.length < 1000)
  (step:∀ x∈xs,∀ s,∀ K':Option (bL×T)→Env→Prop,(∀ s',K' ((f x).map fun p=>(K.f p.1,vf p.2)) (env s'))→eD g (mk x) (env s) fun ρ=>ifs C ρ fun b ρ=>bq b (ek C ρ fun tk ρ=>ev C ρ fun tv ρ=>fX (fQ tk) fun k=>K' (some (k,tv)) ρ) (K' none ρ))
  (s:σ) (fin:∀ s,Q (em K vf (iJ (xs.filterMap f))) (env s)):cS ok g ifs ek ev C (xs.map mk) (env s) [] Q:=by
 suffices h:∀ m:List (κ×ν),(keys m).Nodup→m.length+xs.length≤SZ→(∀ s,Q (em K vf (pf m (xs.filterMap f))) (env s))→cS ok g ifs ek ev C (xs.map mk) (env s) (em K vf m) Q from
  h [] cJ (aI (er (Nat.zero_add _)) (aI (Nat.le_of_lt hl) (by decide))) fin
 clear hl fin
 induction xs generalizing s with
 | nil=>intro m _ _ fin;rw [List.map_nil,jv];exact fin s
 | cons x xs ih=>
  intro m nd hl fin
  have ih:=fun s m=>ih (fun y h=>step y (.tail _ h)) s m
  rw [c8,mP]
  refine step x (.head _) s (fun o ρ=>o.elim (ok ρ∧cS ok g ifs ek ev C (xs.map mk) ρ (em K vf m) Q) fun p=>fX (lr (em K vf m) p.1 p.2) fun acc=>ok ρ∧cS ok g ifs ek ev C (xs.map mk) ρ acc Q) fun s'=>?_
  induction q:f x with
  | none=>
   rw [List.filterMap_cons_none q] at fin
   exact ⟨hok s',ih s' m nd (Nat.le_of_succ_le hl) fin⟩
  | some p=>
   rw [List.filterMap_cons_some q] at fin
   have hl:=D9 (iA m p.1 p.2).2 hl
   exact ab (rm K vf nd hl.1 p.1 p.2) ⟨hok s',ih s' (eJ m p.1 p.2) (eA nd) hl.2 fin⟩
theorem nJ (m:List (κ×ν)):((em K vf m).map fun p=>cb p.1)=(keys m).map K.t:=by
 unfold em
 rw [cp,cp]
 exact iv fun p _=>K.tk _
theorem gv {m:List (κ×ν)} {ok:Env→Prop} {ifs:SB} {acc:List T} (h:ce ok g ifs elt C ((keys m).map K.t) ρ acc Q):ce ok g ifs elt C ((em K vf m).map fun p=>cb p.1) ρ acc Q:=by rw [nJ];exact h
theorem J9 {m:List (κ×ν)} {ok:Env→Prop} {ifs:SB} {ek ev:SE} {acc:List (bL×T)} {Q:List (bL×T)→Env→Prop} (h:cS ok g ifs ek ev C ((keys m).map K.t) ρ acc Q):cS ok g ifs ek ev C ((em K vf m).map fun p=>cb p.1) ρ acc Q:=by rw [nJ];exact h
theorem Fv {m:List (κ×ν)} {b:SS} {Q:Fl→Env→Prop} (h:eY g b C ((keys m).map K.t) ρ Q):eY g b C ((em K vf m).map fun p=>cb p.1) ρ Q:=by rw [nJ];exact h
end
end
section
theorem i0 {l:List Int} (nd:l.Nodup) (h:l.length < 60):iF (l.map T.int)=some ((canon l).map .int):=oJ nd h
theorem Jk {l:List Int} (nd:l.Nodup) (h:l.length < 60):bi .sorted (.list (l.map T.int))=some (.list ((canon l).map .int)):=by
 unfold bi
 dsimp only
 rw [i0 nd h];rfl
theorem zn {l:List Int} (h:l.length < 60):bi .sorted (.set l)=some (.list (l.map .int)):=by
 unfold bi
 dsimp only
 rw [au h]
section
variable {ν:Type} (vf:ν→T)
theorem eI {m:List (Int×ν)} (nd:(keys m).Nodup) (h:m.length < 60):bi .sorted (D kI vf m)=some (.list ((canon (keys m)).map .int)):=by
 unfold bi D
 dsimp only
 rw [nJ,show ((keys m).map kI.t)=(keys m).map T.int from rfl,i0 nd (by rw [bF];exact h)];rfl
end
theorem Hr (sh:Bool) (l:List (Int×Int)):NS sh (l.map (gX sh))=some l:=by
 induction l with
 | nil=>rfl
 | cons p l ih=>rw [c8,NS,ih];induction sh<;>rfl
theorem oL {sh:Bool} {l:List (Int×Int)} (nd:l.Nodup) (h:l.length≤4):iF (l.map (gX sh))=some ((bh l).map (gX sh)):=by
 unfold iF
 by_cases h1:(l.map (gX sh)).length≤1
 ·rw [au h1]
  rw [ba] at h1
  rcases Jt h1 with e | ⟨a,e⟩<;>rw [e]<;>rfl
 ·have e2:lj sh (l.map (gX sh))=some ((bh l).map (gX sh)):=by
   unfold lj
   rw [Hr,fN,au ⟨h,nd⟩]
  rw [av h1]
  induction l with
  | nil=>exact absurd (cr _) h1
  | cons p r=>
   induction sh with
   | true=>exact e2
   | false=>show (match lj false ((p::r).map (gX false)) with | some r=>some r | none=>lj true _)=_;rw [e2]
theorem wy {l:List (Int×Int)} (nd:l.Nodup) (h:l.length≤4):bi .sorted (.list (l.map (gX true)))=some (.list ((bh l).map (gX true))):=by
 unfold bi
 dsimp only
 rw [oL nd h];rfl
theorem ko (vf:ν→T) {m:List ((Int×Int)×ν)} (nd:(keys m).Nodup) (h:m.length≤4):bi .sorted (D kP vf m)=some (.list ((bh (keys m)).map kP.t)):=by
 unfold bi D
 dsimp only
 rw [nJ,show ((keys m).map kP.t)=(keys m).map (gX false) from rfl,oL nd (by rw [bF];exact h)];rfl
theorem GK {ys:List T} (h:xs.length+ys.length≤1000):s8 .Add (.tup xs) (.tup ys)=some (.tup (xs++ys)):=au (aI h (by decide))
theorem add_list {ys:List T} (h:xs.length+ys.length≤1000):s8 .Add (.list xs) (.list ys)=some (.list (xs++ys)):=au (aI h (by decide))
theorem dP {l:List Int} {k:Int} (h:k∈canon l):k∈l:=aN.mp h
theorem g7 {l:List (Int×Int)} {k:Int×Int} (h:k∈bh l):k∈l:=(bH l).mem_iff.mp h
end
section
inductive PL:Nat→T→Prop
 | none (d:Nat):PL d .none
 | bool (d:Nat) (b:Bool):PL d (.bool b)
 | int (d:Nat) (i:Int):PL d (.int i)
 | str (d s:Nat):PL d (.str s)
 | tup (d:Nat) (xs:List T):(∀ x∈xs,PL d x)→PL (d+1) (.tup xs)
 | list (d:Nat) (xs:List T):(∀ x∈xs,PL d x)→PL (d+1) (.list xs)
theorem nV {d:Nat}:(∀ x∈xs,depth x≤d)→q4 xs≤d:=by
 induction xs with
 | nil=>exact fun _=>cr _
 | cons x xs ih=>exact fun h=>Nat.max_le.mpr ⟨h x (.head _),ih fun y m=>h y (.tail _ m)⟩
theorem ue:(∀ x∈xs,AA x x=some true)→xD xs xs=some true:=by
 induction xs with
 | nil=>exact fun _=>rfl
 | cons x xs ih=>
  intro h
  show ((AA x x).bind fun a=>(xD xs xs).map fun b=>a&&b)=_
  rw [h x (.head _),ih fun y m=>h y (.tail _ m)];rfl
theorem PL.depth {d:Nat} {t:T} (h:PL d t):depth t≤d:=by
 induction h with
 | tup d xs _ ih=>exact gC (nV ih)
 | list d xs _ ih=>exact gC (nV ih)
 | _=>exact cr _
theorem PL.refl {d:Nat} {t:T} (h:PL d t):AA t t=some true:=by
 induction h with
 | none=>rfl
 | bool d b=>exact aw some (beq_self_eq_true b)
 | int d b=>exact aw some (br rfl)
 | str d b=>exact aw some (br rfl)
 | tup d xs _ ih=>exact ue ih
 | list d xs _ ih=>exact (au rfl).trans (ue ih)
theorem PL.q {d:Nat} {t:T} (h:PL d t):Ka t t=some true:=by
 induction h with
 | none=>rfl
 | bool _ b=>exact PL.refl (.bool 0 b)
 | int _ b=>exact PL.refl (.int 0 b)
 | str _ b=>exact PL.refl (.str 0 b)
 | tup d xs h=>exact PL.refl (.tup d xs h)
 | list d xs h=>exact PL.refl (.list d xs h)
theorem Ae {a b:T} (h:Nz.depth a≤60):kD .Eq a b=Ka a b:=au h
theorem p7 {a b:T} (h:Nz.depth a≤60):kD .NotEq a b=(Ka a b).map (!·):=au h
theorem wS {d:Nat} {t:T} (h:PL d t) (hd:d≤60):kD .Eq t t=some true:=by
 rw [Ae (aI h.depth hd)];exact h.q
theorem vh {d:Nat} {t:T} (h:PL d t) (hd:d≤60):kD .NotEq t t=some false:=by
 rw [p7 (aI h.depth hd),h.q];rfl
theorem NU:∀ {xs:List T},xD xs []=some xs.isEmpty
 | []=>rfl
 | _::_=>rfl
theorem Ff {d:Nat} (h:∀ x∈xs,PL d x) (hd:d < 60):kD .Eq (.list xs) (.list [])=some xs.isEmpty:=by
 rw [Ae (aI (PL.list d xs h).depth hd)]
 induction xs<;>rfl
theorem P5 {d:Nat} (h:∀ x∈xs,depth x≤d) (hd:d < 60):kD .NotEq (.list xs) (.list [])=some (!xs.isEmpty):=by
 rw [p7 (aI (gC (nV h)) hd)]
 induction xs<;>rfl
theorem HB {d:Nat} (h:∀ x∈xs,PL d x) (hd:d < 60):kD .NotEq (.tup xs) (.tup [])=some (!xs.isEmpty):=by
 rw [p7 (aI (PL.tup d xs h).depth hd)]
 induction xs<;>rfl
theorem PL.ints (l:List Int):∀ x∈l.map T.int,PL 0 x:=fun x h=>by
 obtain ⟨i,_,rfl⟩:=bo.mp h;exact .int 0 i
theorem PL.up {d e:Nat} {t:T} (h:PL d t) (hd:d≤e):PL e t:=by
 induction h generalizing e with
 | none=>exact .none e
 | bool d b=>exact .bool e b
 | int d b=>exact .int e b
 | str d b=>exact .str e b
 | tup d xs _ ih=>
  induction e with
  | zero=>cases hd
  | succ e=>exact .tup e xs fun x m=>ih x m (Nat.le_of_succ_le_succ hd)
 | list d xs _ ih=>
  induction e with
  | zero=>cases hd
  | succ e=>exact .list e xs fun x m=>ih x m (Nat.le_of_succ_le_succ hd)
theorem oh [DecidableEq κ] (K:KE κ) {a b:List (κ×Int)} (na:(keys a).Nodup) (nb:(keys b).Nodup) (h:∀ k,b7 a k=b7 b k):kD .NotEq (D K T.int a) (D K T.int b)=some false:=by
 have hp:(keys a).Perm (keys b):=(List.perm_ext_iff_of_nodup na nb).mpr fun k=>by rw [← fp,← fp,h]
 have hl:a.length=b.length:=by have:=hp.length_eq;rwa [bF,bF] at this
 have hdep:∀ m:List (κ×Int),ij (em K T.int m)=0:=fun m=>by
  induction m with
  | nil=>rfl
  | cons p m ih=>show max 0 (ij (em K T.int m))=0;rw [ih];rfl
 have hd:depth (D K T.int a)≤60:=by
  show ij (em K T.int a)+1≤60
  rw [hdep];decide
 rw [p7 hd]
 show (NY (em K T.int a) (em K T.int b)).map (!·)=_
 unfold NY
 rw [au]
 ·rfl
 ·refine ⟨by simp [em,hl],?_⟩
  rw [aY]
  intro p hpm
  obtain ⟨q,hq,rfl⟩:=bo.mp hpm
  dsimp only
  rw [rY,qb,← h q.1,dw na (show (q.1,q.2)∈a from hq),Bool.true_and]
  show (AA (.int q.2) (.int q.2)==some true)=true
  rw [(PL.int 0 q.2).refl];rfl
end
section
noncomputable abbrev DI (m:List (Int×Int)):T:=D kI T.int m
noncomputable abbrev fG (m:T):T:=.inst 4 [(15,m)]
noncomputable abbrev pi (m:T):T:=.inst 2 [(8,m)]
noncomputable abbrev be (kind:Nat) (tables:T):T:=.inst 6 [(21,.str kind),(22,.int 0),(23,.int 0),(24,tables)]
noncomputable abbrev ee (m:T):T:=.inst 3 [(11,m),(12,.bool false)]
noncomputable abbrev sm (a b c d:Int):T:=.inst 5 [(17,.int a),(18,.int b),(19,.int c),(20,.int d)]
noncomputable abbrev je (m:T):T:=.inst 0 [(1,m),(3,.none)]
noncomputable abbrev kC (m:T):T:=.inst 1 [(6,m)]
noncomputable abbrev yH (a b c d e:T):T:=.inst 13 [(48,a),(49,b),(50,c),(51,d),(52,e)]
noncomputable abbrev uu (c a s p k:T):T:=.inst 8 [(6,c),(34,a),(8,s),(35,p),(36,k)]
noncomputable abbrev Ac (r f:T):T:=.inst 9 [(38,r),(39,f)]
noncomputable abbrev Gu (t d l:T):T:=.inst 10 [(40,t),(41,d),(42,l)]
noncomputable abbrev oq (t l:T):T:=.inst 11 [(40,t),(44,l)]
noncomputable abbrev FJ (s f l:T):T:=.inst 12 [(45,s),(39,f),(44,l)]
noncomputable abbrev qY (c m g s p k:T):T:=.inst 7 [(27,c),(28,m),(29,g),(30,s),(31,p),(32,k)]
section
variable {n:Nat} {Q:T→Option T→Prop}
theorem wl (m:T) (h:Q .none (some (fG m))):CN (n+1) 9 [m] (some (.inst 4 [])) Q:=
 ao (fd:=k9) rfl rfl rfl (ab rfl h)
theorem I8 (m:T) (h:Q .none (some (pi m))):CN (n+1) 5 [m] (some (.inst 2 [])) Q:=
 ao (fd:=jf) rfl rfl rfl (ab rfl h)
theorem vy (m:T) (h:Q .none (some (kC m))):CN (n+1) 3 [m] (some (.inst 1 [])) Q:=
 ao (fd:=jc) rfl rfl rfl (ab rfl h)
theorem ir (k:Nat) (t:T) (h:Q .none (some (be k t))):CN (n+1) 14 [.str k,.int 0,.int 0,t] (some (.inst 6 [])) Q:=
 ao (fd:=kZ) rfl rfl rfl (ab rfl (ab rfl (ab rfl (ab rfl h))))
theorem Ar (a b c d:Int) (h:Q .none (some (sm a b c d))):CN (n+1) 11 [.int a,.int b,.int c,.int d] (some (.inst 5 [])) Q:=
 ao (fd:=mV) rfl rfl rfl (ab rfl (ab rfl (ab rfl (ab rfl h))))
theorem DZ (a b c d e f:T) (h:Q .none (some (qY a b c d e f))):CN (n+1) 16 [a,b,c,d,e,f] (some (.inst 7 [])) Q:=
 ao (fd:=oS) rfl rfl rfl (ab rfl (ab rfl (ab rfl (ab rfl (ab rfl (ab rfl h))))))
theorem Ku (a b c d e:T) (hd:d=.dict []) (he:e=.dict []) (h:Q .none (some (uu a b c d e))):CN (n+1) 18 [a,b,c,d,e] (some (.inst 8 [])) Q:=by
 subst hd;subst he
 exact ao (fd:=jT) rfl rfl rfl (ab rfl (ab rfl (ab rfl (ab rfl (ab rfl (ab rfl (ab rfl h)))))))
theorem Gp (a b c:T) (h:Q .none (some (uu a b c (.dict []) (.dict [])))):CN (n+1) 18 [a,b,c] (some (.inst 8 [])) Q:=
 ao (fd:=jT) rfl rfl rfl (ab rfl (ab rfl (ab rfl (ab rfl (ab rfl (ab rfl (ab rfl h)))))))
theorem Kf (a:T) (l:List T) (h:Q .none (some (Ac a (.list l)))):CN (n+1) 20 [a,.list l] (some (.inst 9 [])) Q:=
 ao (fd:=jy) rfl rfl rfl (ab rfl (ab rfl (ab rfl h)))
theorem De (a b c:T) (h:Q .none (some (Gu a b c))):CN (n+1) 22 [a,b,c] (some (.inst 10 [])) Q:=
 ao (fd:=kM) rfl rfl rfl (ab rfl (ab rfl (ab rfl h)))
theorem tI (a:T) (l:List T) (h:Q .none (some (oq a (.list l)))):CN (n+1) 24 [a,.list l] (some (.inst 11 [])) Q:=
 ao (fd:=j4) rfl rfl rfl (ab rfl (ab rfl (ab rfl h)))
theorem wx (a b c:T) (h:Q .none (some (FJ a b c))):CN (n+1) 26 [a,b,c] (some (.inst 12 [])) Q:=
 ao (fd:=kK) rfl rfl rfl (ab rfl (ab rfl (ab rfl h)))
theorem uo (a b c:T) (d e:List T) (h:Q .none (some (yH a b c (.tup d) (.tup e)))):CN (n+1) 28 [a,b,c,.list d,.list e] (some (.inst 13 [])) Q:=
 ao (fd:=jO) rfl rfl rfl (ab rfl (ab rfl (ab rfl (ab rfl (ab rfl (ab rfl (ab rfl h)))))))
theorem tY (m:List (Int×Int)) (nd:(keys m).Nodup) (hl:m.length < 60) (h:Q .none (some (je (DI (m.filter fun p=>p.2 != 0))))) (ts:List T) (hts:ts=[]∨ts=[.none]):CN (n+1) 0 (DI m::ts) (some (.inst 0 [])) Q:=by
 have:=q5 kI T.int (fun p:Int×Int=>T.int p.1) (fun p=>if p.2 != 0 then some p else none) (fun t:Slot=>[(2,t),(0,.own true (.inst 0 [])),(1,.val (DI m)),(3,.val .none)]) (Q:=fun l ρ=>aF 0 1 (ah (.dict l)) (CN n) (ρ.drop 1) fun _ ρ=>aF 0 3 (ae 3) (CN n) ρ fun fl ρ=>nZ (some 0) ρ fun r'=>Q .none r')
  (ok:=fun _=>True) (g:=.one 2) (ifs:=bB (aD .NotEq (aZ (.v 1) (ae 2)) (.e (ah (.int 0)))) aH) (ek:=ae 2) (ev:=aZ (.v 1) (ae 2)) (C:=CN n) (fun _=>trivial) m (by lia)
  (fun p hp s K k=>?_) .unb fun s=>?_
 ·rw [show m.map (fun p:Int×Int=>T.int p.1)=(em kI T.int m).map (fun p=>cb p.1) from by rw [nJ,cp];rfl] at this
  rcases hts with rfl | rfl
  ·exact ao (fd:=gR) rfl rfl rfl this
  ·exact ao (fd:=gR) rfl rfl rfl this
 ·have hv:=dw nd (show (p.1,p.2)∈m from hp)
  refine ag (ab (bE kI T.int hv) (fZ (fun q=>?_) fun q=>?_))
  ·refine ag (ab (bE kI T.int hv) ?_)
   have:=k (.val (.int p.1))
   rw [show (p.2 != 0)=true from q] at this;exact this
  ·have:=k (.val (.int p.1))
   rw [show (p.2 != 0)=false from q] at this;exact this
 ·rw [show m.filterMap (fun p=>if p.2 != 0 then some p else none)=m.filter fun p=>p.2 != 0 from (gi (fun p:Int×Int=>p.2 != 0) id m).trans (List.map_id _),iE (nd.sublist (List.Sublist.map _ fR))]
  exact h
theorem u4 (a b c d:Int) (h:Q (.tup [.int a,.int b,.int c,.int d]) none):CN (n+1) 12 [sm a b c d] none Q:=
 ao (fd:=mQ) rfl rfl rfl (ab rfl (ab rfl (ab rfl (ab rfl h))))
theorem x3 (a b c d:Int) (h:Q (.bool (decide (a=0)&&(decide (b=0)&&(decide (c=0)&&(decide (d=0)&&true))))) none):CN (n+2) 13 [sm a b c d] none Q:=by
 refine ao (fd:=gM) rfl rfl rfl (ab rfl (u4 a b c d ?_))
 exact h
noncomputable def tt [DecidableEq κ] (K:KE κ) (vf:ν→T) (m:List (κ×ν)) (k:κ):T:=.tup [K.t k,((b7 m k).map vf).getD .none]
theorem uG [DecidableEq κ] (K:KE κ) (vf:ν→T) {m:List (κ×ν)} {k:κ} {v:ν} (h:b7 m k=some v):tt K vf m k=.tup [K.t k,vf v]:=by unfold tt;rw [h];rfl
theorem cA [DecidableEq κ] {m:List (κ×ν)} {k:κ} (h:k∈keys m):∃ v,b7 m k=some v:=Option.isSome_iff_exists.mp (fp.mpr h)
noncomputable def i6 (vf:ν→T) (m:List (Int×ν)):List T:=(canon (keys m)).map (tt kI vf m)
theorem I1 (m:List (Int×Int)) (nd:(keys m).Nodup) (hl:m.length < 60) (h:Q (.tup (i6 .int m)) none):CN (n+1) 4 [kC (DI m)] none Q:=by
 refine ao (fd:=i9) rfl rfl rfl (ab (eI T.int nd hl) ?_)
 refine bc T.int (tt kI T.int m) (fun t=>[(7,t),(0,.val (kC (DI m)))]) (fun _=>trivial) _ (fun x hx t K k=>?_) .unb fun t=>h
 obtain ⟨v,hv⟩:=cA (dP hx)
 rw [uG kI T.int hv] at k
 exact ab (bE kI T.int hv) (k _)
theorem Gk (m:List (Int×Int)) (nd:(keys m).Nodup) (hl:m.length < 60) (h:Q (.tup (.str 16::i6 .int m)) none):CN (n+1) 10 [fG (DI m)] none Q:=by
 refine ao (fd:=kT) rfl rfl rfl (ab (eI T.int nd hl) ?_)
 refine bc T.int (tt kI T.int m) (fun t=>[(7,t),(0,.val (fG (DI m)))]) (fun _=>trivial) _ (fun x hx t K k=>?_) .unb fun t=>?_
 ·obtain ⟨v,hv⟩:=cA (dP hx)
  rw [uG kI T.int hv] at k
  exact ab (bE kI T.int hv) (k _)
 ·exact ab rfl (ab (GK (by have:=bK (keys m);simp only [ba] at this ⊢;simp;lia)) h)
theorem Bj (m:List (Int×Int)) (nd:(keys m).Nodup) (hl:m.length < 60) (h:Q (.tup [.tup (i6 .int m),.none]) none):CN (n+1) 2 [je (DI m)] none Q:=by
 refine ao (fd:=jn) rfl rfl rfl (ab (eI T.int nd hl) ?_)
 refine bc T.int (tt kI T.int m) (fun t=>[(2,t),(0,.val (je (DI m))),(4,.unb)]) (fun _=>trivial) _ (fun x hx t K k=>?_) .unb fun t=>ag h
 obtain ⟨v,hv⟩:=cA (dP hx)
 rw [uG kI T.int hv] at k
 exact ab (bE kI T.int hv) (k _)
end
end
section
noncomputable def dX (n:Nat) (t u:T):Prop:=∃ f,FB mt t 5=some f∧∀ Q:T→Option T→Prop,Q u none→CN n f [t] none Q
theorem dX.go {t u:T} {K:T→Option T→Prop} (h:dX n t u) (k:K u none):fX (FB mt t 5) fun f=>CN n f [t] none K:=by
 obtain ⟨f,e,c⟩:=h
 exact ab e (c K k)
section
variable {n:Nat} {Q:T→Option T→Prop}
theorem oB (m:List (Int×Int)) (nd:(keys m).Nodup) (hl:m.length < 60):dX (n+1) (fG (DI m)) (.tup (.str 16::i6 .int m)):=⟨10,rfl,fun _ h=>Gk m nd hl h⟩
theorem rI (m:List (Int×Int)) (nd:(keys m).Nodup) (hl:m.length < 60):dX (n+1) (kC (DI m)) (.tup (i6 .int m)):=⟨4,rfl,fun _ h=>I1 m nd hl h⟩
theorem A9 (m:List (Int×Int)) (nd:(keys m).Nodup) (hl:m.length < 60):dX (n+1) (je (DI m)) (.tup [.tup (i6 .int m),.none]):=⟨2,rfl,fun _ h=>Bj m nd hl h⟩
noncomputable def live (l:List (Int×Int)):List (Int×Int):=l.foldl (fun f p=>if p.1∈keys f then f else f++[p]) []
theorem FC (a b:Int) (h:Q (.bool (decide (a=b)&&true)) none):CN (n+1) 38 [.tup [.int a],.tup [.int b]] none Q:=
 ao (fd:=k0) rfl rfl rfl h
theorem Bm (f:List (Int×Int)) (p:Int×Int):((f.filter fun x=>decide (p.1=x.1)).map fun x=>T.tup [T.int x.1]).isEmpty=!decide (p.1∈keys f):=by
 induction f with
 | nil=>rfl
 | cons q f ih=>
  rw [List.filter_cons]
  by_cases h:p.1=q.1
  ·simp [h]
  ·simp only [h,decide_false,keys,c8,aU,false_or]
   simpa using ih
theorem wC (rows:List (Int×Int)) (hl:rows.length < 1000) (h:Q (.list ((live rows).map (gX true))) none):CN (n+2) 39 [.list (rows.map (gX true))] none Q:=by
 refine ao (fd:=oy) rfl rfl rfl (ag (And.intro rfl (ab rfl ?_)))
 refine cv (gX true) (fun s:List (Int×Int)×Slot×Slot=>[(4,.val (.list (rows.map (gX true)))),(54,.own false (.list (s.1.map (gX true)))),(43,s.2.1),(57,s.2.2)])
  (fun l s=>l.foldl (fun f p=>if p.1∈keys f then f else f++[p]) s.1=live rows∧s.1.length+l.length≤rows.length) ?_ ?_ rows ([],.unb,.unb) ⟨rfl,by simp⟩
 ·rintro p l ⟨f,s1,s2⟩ ⟨e,hn⟩ K k
  dsimp only at e hn
  have hn':f.length+(l.length+1)≤rows.length:=hn
  refine ab rfl (bg (gX true) (fun x=>decide (p.1=x.1)) (fun x=>T.tup [.int x.1]) (fun s:Slot×Slot=>[(70,s.1),(58,s.2),(4,.val (.list (rows.map (gX true)))),(54,.own false (.list (f.map (gX true)))),(43,.val (.tup [.int p.1])),(57,.val (.int p.2))]) (fun x=>(.val (.tup [.int x.1]),.val (.int x.2))) (fun _=>rfl) f (fun x hx s K k=>?_) (fun x hx hp K k=>k _) (.unb,.unb) fun s=>?_)
  ·refine ag (FC p.1 x.1 ?_)
   induction q:decide (p.1=x.1) with
   | false=>rw [q] at k;exact k
   | true=>rw [q] at k;exact k
  ·refine ab (Ff (d:=1) (fun x hx=>?_) (by decide)) ?_
   ·obtain ⟨y,_,rfl⟩:=bo.mp hx
    exact .tup 0 _ fun z hz=>by rw [aV.mp hz];exact .int 0 _
   ·rw [Bm]
    by_cases q:p.1∈keys f
    ·rw [br q]
     refine k (f,.val (.tup [.int p.1]),.val (.int p.2)) ⟨?_,by dsimp only;lia⟩
     rw [List.foldl_cons,au q] at e;exact e
    ·rw [eK q]
     refine ag (ab (au (by rw [ba];have:SZ=1048576:=rfl;lia)) ?_)
     have:=k (f++[p],.val (.tup [.int p.1]),.val (.int p.2)) ⟨by rw [List.foldl_cons,av q] at e;exact e,by dsimp only;rw [bS,mE];lia⟩
     rw [show (f++[p]).map (gX true)=f.map (gX true)++[gX true p] from by simp] at this
     exact this
 ·rintro ⟨f,s1,s2⟩ ⟨e,_⟩
  dsimp only at e
  have e:f=live rows:=e
  subst e
  exact h
noncomputable abbrev gE (l:List (Int×Int)):T:=.list (l.map (gX true))
noncomputable abbrev DL (m:List (Int×List (Int×Int))):T:=D kI gE m
noncomputable def hZ (m:List (Int×List (Int×Int))) (k:Int):T:=.tup [.int k,.tup ((bh (live ((b7 m k).getD []))).map (gX true))]
noncomputable def oE (m:List (Int×List (Int×Int))):List T:=(canon (keys m)).map (hZ m)
theorem rE (l f:List (Int×Int)) (nd:(keys f).Nodup):(keys (l.foldl (fun f p=>if p.1∈keys f then f else f++[p]) f)).Nodup∧(l.foldl (fun f p=>if p.1∈keys f then f else f++[p]) f).length≤f.length+l.length∧(f≠[]∨l≠[]→l.foldl (fun f p=>if p.1∈keys f then f else f++[p]) f≠[]):=by
 induction l generalizing f with
 | nil=>exact ⟨nd,Nat.le_refl _,fun h=>h.resolve_right fun h=>h rfl⟩
 | cons p l ih=>
  rw [List.foldl_cons]
  by_cases h:p.1∈keys f
  ·rw [au h]
   obtain ⟨h1,h2,h3⟩:=ih f nd
   exact ⟨h1,aI h2 (by simp),fun _=>h3 (.inl fun e=>by rw [e] at h;cases h)⟩
  ·rw [av h]
   obtain ⟨h1,h2,h3⟩:=ih (f++[p]) (by
    rw [keys,dK,cF]
    exact ⟨nd,by simp,fun a ha b hb e=>h (by simp at hb;rw [← hb,← e];exact ha)⟩)
   exact ⟨h1,aI h2 (by simp;lia),fun _=>h3 (.inl (by simp))⟩
theorem tw {l:List (κ×ν)} (h:(keys l).Nodup):l.Nodup:=List.Pairwise.of_map Prod.fst (fun a b h e=>h (by rw [e])) h
theorem yV (l:List (Int×Int)):(live l).Nodup:=tw (rE l [] cJ).1
theorem Do (l:List (Int×Int)):(live l).length≤l.length:=by have:=(rE l [] cJ).2.1;rw [List.length_nil,Nat.zero_add] at this;exact this
theorem GR {l:List (Int×Int)} (h:l≠[]):live l≠[]:=(rE l [] cJ).2.2 (.inr h)
theorem Cd {l:List (Int×Int)} (h:l≠[]):bh l≠[]:=fun e=>h (by have:=bH l;rw [e] at this;exact List.nil_perm.mp this)
theorem qi (l:List (Int×Int)):(bh l).length=l.length:=(bH l).length_eq
theorem wX (m:List (Int×List (Int×Int))) (nd:(keys m).Nodup) (hl:m.length < 60) (h4:∀ p∈m,p.2≠[]∧p.2.length≤4):dX (n+3) (pi (DL m)) (.tup (oE m)):=by
 refine ⟨6,rfl,fun Q h=>ao (fd:=jd) rfl rfl rfl (ab (eI gE nd hl) ?_)⟩
 refine bc T.int (hZ m) (fun t=>[(9,t),(0,.val (pi (DL m))),(4,.unb)]) (fun _=>trivial) _ (fun x hx t K k=>?_) .unb fun t=>?_
 ·obtain ⟨v,hv⟩:=cA (dP hx)
  obtain ⟨h5,h6⟩:=h4 (x,v) (cY hv)
  have h6:v.length≤4:=h6
  refine ag (ab (bE kI gE hv) ?_)
  refine wC v (by lia) ?_
  refine ab (wy (yV v) (aI (Do v) h6)) ?_
  have:=k (.val (.int x))
  rw [show hZ m x=.tup [.int x,.tup ((bh (live v)).map (gX true))] from by unfold hZ;rw [hv];rfl] at this
  exact this
 ·have e:oE m=(canon (keys m)).map (hZ m):=rfl
  refine ag ?_
  refine bg (hZ m) (fun x=>true) (hZ m) (fun t=>[(10,t),(0,.val (pi (DL m))),(4,.val (.list ((canon (keys m)).map (hZ m))))]) (fun x=>.val (hZ m x)) (fun _=>trivial) _ (fun x hx t K k=>?_) (fun x hx _ K k=>?_) .unb fun t=>?_
  ·obtain ⟨v,hv⟩:=cA (dP hx)
   obtain ⟨h5,h6⟩:=h4 (x,v) (cY hv)
   refine ag (ab (HB (d:=2) (fun y hy=>?_) (by decide)) ?_)
   ·obtain ⟨z,_,rfl⟩:=bo.mp hy
    exact .tup 1 _ fun w hw=>by
     rcases aU.mp hw with rfl | hw
     ·exact .tup 0 _ fun u hu=>by rw [aV.mp hu];exact .int 0 _
     ·rw [aV.mp hw];exact .int 1 _
   ·have hne:((bh (live ((b7 m x).getD []))).map (gX true)).isEmpty=false:=by
     rw [hv]
     induction q:(bh (live v)) with
     | nil=>exact absurd q (Cd (GR h5))
     | cons a l=>rw [Option.getD_some,q];rfl
    rw [hne]
    exact k
  ·exact k _
  ·rw [List.filter_eq_self.mpr (fun _ _=>rfl),← e];exact h
noncomputable abbrev fw (v:Int):T:=.tup [sm 0 0 v 0,sm 0 0 0 0]
noncomputable abbrev DA (m:List ((Int×Int)×Int)):T:=D kP fw m
theorem AD (m:List ((Int×Int)×Int)) (h:Q (.bool false) none):CN (n+3) 41 [.dvals (em kP fw m)] none Q:=by
 have key:∀ Q:T→Env→Prop,(∀ s,Q (.list []) [(33,s),(11,.val (.dvals (em kP fw m)))])→ce (fun _=>True) (.one 33) (bB (rF (cQ (.e (cy mt (aZ (.v 33) (ah (.int 1))) 71 ak)))) aH) (ae 33) (CN (n+2)) (m.map fun p=>fw p.2) [(33,.unb),(11,.val (.dvals (em kP fw m)))] [] (fun l ρ=>Q (.list l) ρ):=by
  intro Q h
  refine bg (fun p:(Int×Int)×Int=>fw p.2) (fun _=>false) (fun p=>fw p.2) (fun t=>[(33,t),(11,.val (.dvals (em kP fw m)))]) (fun x=>.val (fw x.2)) (fun _=>trivial) m (fun x hx t K k=>?_) (fun x _ hf=>nomatch hf) .unb fun t=>?_
  ·exact ag (ab rfl (ab rfl (x3 0 0 0 0 k)))
  ·rw [List.filter_eq_nil_iff.mpr (fun _ _=>bO)];exact h t
 refine ao (fd:=jA) rfl rfl rfl ?_
 have:=key (fun t ρ=>gV .NotEq (ah t) (.e (bM ak)) (CN (n+2)) (ρ.drop 1) fun t ρ=>nZ none ρ fun r=>Q t r) fun s=>h
 rw [show m.map (fun p:(Int×Int)×Int=>fw p.2)=(em kP fw m).map (·.2) from by unfold em;rw [cp];rfl] at this
 exact this
theorem Az (m:List ((Int×Int)×Int)) (h:Q .none (some (ee (DA m)))):CN (n+4) 7 [DA m] (some (.inst 3 [])) Q:=by
 refine ao (fd:=eS) rfl rfl rfl (ab rfl (ag (And.intro rfl (AD m ?_))))
 exact h
theorem IN (m:List ((Int×Int)×Int)) (h:Q .none (some (ee (DA m)))):CN (n+4) 7 [DA m,.bool false] (some (.inst 3 [])) Q:=by
 refine ao (fd:=eS) rfl rfl rfl (ab rfl (ag (And.intro rfl (AD m ?_))))
 exact h
noncomputable def mh (m:List ((Int×Int)×Int)) (k:Int×Int):T:=.tup [kP.t k,.tup [.tup [.int 0,.int 0,.int ((b7 m k).getD 0),.int 0],.tup [.int 0,.int 0,.int 0,.int 0]]]
noncomputable def lq (m:List ((Int×Int)×Int)):List T:=(bh (keys m)).map (mh m)
theorem xF (v:Int) (h:Q (.tup [.tup [.int 0,.int 0,.int v,.int 0],.tup [.int 0,.int 0,.int 0,.int 0]]) none):CN (n+2) 40 [fw v] none Q:=by
 refine ao (fd:=ot) rfl rfl rfl (ag (ab rfl (ab rfl (u4 0 0 v 0 ?_))))
 refine ag (ab rfl (ab rfl (u4 0 0 0 0 ?_)))
 exact h
theorem Bh (m:List ((Int×Int)×Int)) (nd:(keys m).Nodup) (hl:m.length≤4):dX (n+3) (ee (DA m)) (.tup [.str 14,.bool false,.tup (lq m)]):=by
 refine ⟨8,rfl,fun Q h=>ao (fd:=hW) rfl rfl rfl (ab (ko fw nd hl) ?_)⟩
 refine bc kP.t (mh m) (fun t=>[(13,t),(0,.val (ee (DA m))),(4,.unb)]) (fun _=>trivial) _ (fun x hx t K k=>?_) .unb fun t=>?_
 ·obtain ⟨v,hv⟩:=cA (g7 hx)
  refine ag (ab (bE kP fw hv) ?_)
  refine xF v ?_
  have:=k (.val (kP.t x))
  rw [show mh m x=.tup [kP.t x,.tup [.tup [.int 0,.int 0,.int v,.int 0],.tup [.int 0,.int 0,.int 0,.int 0]]] from by unfold mh;rw [hv];rfl] at this
  exact this
 ·exact ag h
theorem fL (kind:Nat) {t u:T} (ht:dX n t u):dX (n+1) (be kind (.list [t])) (.tup [.str kind,.int 0,.int (-1),.tup [u]]):=by
 refine ⟨15,rfl,fun Q h=>ao (fd:=k6) rfl rfl rfl (ag ?_)⟩
 refine dT (ht.go ?_)
 exact ag (cK h)
theorem uY (tag:T) (l:List T):dX (n+1) (oq tag (.list l)) (.tup [tag,.tup l]):=⟨25,rfl,fun Q h=>ao (fd:=j3) rfl rfl rfl h⟩
theorem Bl (r:T) (l:List T):dX (n+1) (Ac r (.list l)) (.tup [r,.tup l]):=⟨21,rfl,fun Q h=>ao (fd:=jE) rfl rfl rfl h⟩
theorem wk (tag:T) {d u:T} (hd:dX n d u) (nn:bZ d=false):dX (n+1) (Gu tag d (.dict [])) (.tup [tag,u,.tup []]):=by
 refine ⟨23,rfl,fun Q h=>ao (fd:=k5) rfl rfl rfl (cK ?_)⟩
 refine ag ?_
 refine fJ nn ?_
 exact hd.go h
theorem w8 {s us f uf:T} (ls:List α) (mk tl:α→T) (hs:dX n s us) (hf:dX n f uf) (hl:∀ x∈ls,dX n (mk x) (tl x)) :
  dX (n+1) (FJ (.dict [(.S 103,s)]) (.list [f]) (.list (ls.map mk))) (.tup [.tup [us],.tup [uf],.tup (ls.map tl)]):=by
 refine ⟨27,rfl,fun Q h=>ao (fd:=kY) rfl rfl rfl ?_⟩
 refine dT (hs.go ?_)
 refine ag (cK (ag ?_))
 refine dT (hf.go ?_)
 refine ag (cK (ag ?_))
 refine bc mk tl (fun t=>[(47,t),(0,.val (FJ (.dict [(.S 103,s)]) (.list [f]) (.list (ls.map mk)))),(45,.val (.tup [us])),(39,.val (.tup [uf]))]) (fun _=>trivial) _ (fun x hx t K k=>?_) .unb fun t=>h
 exact (hl x hx).go (k _)
theorem CD (m:List (Int×Int)) (nd:(keys m).Nodup) (hl:m.length < 60):dX (n+2) (uu (kC (DI m)) (kC (DI [])) (.list []) (.dict []) (.dict [])) (.tup [.tup (i6 .int m),.tup [],.tup [],.tup [],.tup []]):=by
 refine ⟨19,rfl,fun Q h=>ao (fd:=oU) rfl rfl rfl (cK ?_)⟩
 refine ag (cK (ag ?_))
 refine (rI m nd hl).go ?_
 refine (rI [] cJ (by decide)).go ?_
 exact cK h
theorem xB (a b c d e:T):dX (n+1) (yH a b c d e) (.tup [a,b,c,d,e]):=⟨29,rfl,fun Q h=>ao (fd:=jw) rfl rfl rfl h⟩
theorem kX {t u:T} (h0:(t=.none∧u=.none)∨(bZ t=false∧dX n t u)) (h:Q u none):CN (n+1) 51 [t] none Q:=by
 rcases h0 with ⟨rfl,rfl⟩ | ⟨h1,h2⟩
 ·exact ao (fd:=im) rfl rfl rfl h
 ·refine ao (fd:=im) rfl rfl rfl (fJ h1 ?_)
  exact h2.go h
theorem AV {c uc g ug s us p up:T} {md me:List T} (kern:List ((Int×Int)×Int)) (a1 a2 a3:T) (nd:(keys kern).Nodup) (hl:kern.length≤4) (hc:dX (n+1) c uc) (hg:dX (n+1) g ug)
  (hs:(s=.none∧us=.none)∨(bZ s=false∧dX n s us)) (hp:(p=.none∧up=.none)∨(bZ p=false∧dX n p up)) :
  dX (n+2) (qY c (yH a1 a2 a3 (.tup md) (.tup me)) g s p (D kP T.int kern)) (.tup [uc,.tup [a1,a2,a3,.tup md,.tup me],ug,us,up,.tup ((bh (keys kern)).map (tt kP T.int kern))]):=by
 refine ⟨17,rfl,fun Q h=>ao (fd:=oY) rfl rfl rfl ?_⟩
 refine hc.go ((xB a1 a2 a3 (.tup md) (.tup me)).go (hg.go (ag ?_)))
 refine kX hs (ag ?_)
 refine kX hp ?_
 refine ab (ko T.int nd hl) ?_
 refine bc kP.t (tt kP T.int kern) (fun t=>[(33,t),(0,.val (qY c (yH a1 a2 a3 (.tup md) (.tup me)) g s p (D kP T.int kern)))]) (fun _=>trivial) _ (fun x hx t K k=>?_) .unb fun t=>h
 obtain ⟨v,hv⟩:=cA (g7 hx)
 rw [uG kP T.int hv] at k
 exact ab (bE kP T.int hv) (k _)
end
end
section
theorem jq {a b:Int} (h:0 < b):s8 .Mod (.int a) (.int b)=some (.int (a % b)):=au h
theorem wu {a b:Int} (h:0 < b∧b < 1073741824):s8 .FloorDiv (.int a) (.int b)=some (.int (a / b)):=au h
theorem wE {a:Int} (h0:0≤a) (h1:a < 18446744073709551616):small a=true:=by unfold small;exact br (by lia)
theorem mN {a:Int} (h0:0≤a) (h1:a < 18446744073709551616):s8 .Pow (.int a) (.int 3)=some (.int (a ^ 3)):=au (by rw [wE h0 h1];rfl)
theorem my {a b:Int} (h0:0≤a) (h1:a < 18446744073709551616):s8 .Mult (.int a) (.int b)=some (.int (a*b)):=au (by rw [wE h0 h1];rfl)
noncomputable abbrev L9 (cells:List Int) (seat great:Int):T:=.list [.list (cells.map .int),.int seat,.int great]
structure jU where
 cells:List Int
 seat:Int
 great:Int
noncomputable abbrev jU.t (p:jU):T:=L9 p.cells p.seat p.great
noncomputable def jU.ok (p:jU) (k:Int):Prop:=0≤p.seat∧p.seat≤k
theorem eT (a:Int) {b:Int} (h:0 < b):0≤a % b∧a % b < b:=⟨Int.emod_nonneg a (by lia),Int.emod_lt_of_pos a h⟩
theorem Np (l:List Int):rT (.list (l.map T.int))=some (!l.isEmpty):=by induction l<;>rfl
theorem O7 (l:List Int):bi .len (.list (l.map T.int))=some (.int l.length):=aw (fun n:Nat=>some (T.int n)) (ba _)
theorem El {l:List Int} {i:Int} (h0:0≤i) (h:i < l.length):getItem (.list (l.map T.int)) (.int i)=some (.int (l.getD i.toNat 0)):=by
 show (idxOf i (l.map T.int).length).bind (fun j=>(l.map T.int)[j]?)=_
 unfold idxOf
 rw [au h0,au (by rw [ba];lia),fN,dL,hQ]
 rw [cq (by lia)];rfl
theorem HQ {Q:T→Option T→Prop} (many:Int) (hm:0 < many∧many < 1000) (cells:List Int) (seat great k:Int) (h1:0≤seat) (h2:seat≤k) (hk:k < 10000)
  (h:∀ (d:Int) (p':jU),0≤d→d < many→p'.ok (k+1)→Q (.int d) (some p'.t)):CN (n+1) 71 [.int many] (some (L9 cells seat great)) Q:=by
 have hm':0 < many∧many < 1073741824:=⟨hm.1,by lia⟩
 have fin:∀ g d:Int,0≤d→d < many→Q (.int d) (some (L9 cells (seat+1) g)):=fun g d a b=>h d ⟨cells,seat+1,g⟩ a b ⟨by dsimp only;lia,by dsimp only;lia⟩
 refine ao (fd:=qj) rfl rfl rfl (ag (fZ (fun hg=>?_) fun hg=>?_))
 ·refine ag (ab (jq hm.1) (ag (ag ?_)))
  refine ab (wu hm') (ag ?_)
  exact h _ ⟨cells,seat,great / many⟩ (eT great hm.1).1 (eT great hm.1).2 ⟨h1,by dsimp only;lia⟩
 ·refine ag (ag (ag ?_))
  refine ag (fZ (fun hc=>?_) fun hc=>?_)
  ·have hl:0 < ((cells.map T.int).length:Int):=by
    induction cells with
    | nil=>exact bt hc
    | cons a l=>simp
   refine ag (ag (ab (jq hl) ?_))
   obtain ⟨m0,m1⟩:=eT seat hl
   refine ab (El (l:=cells) m0 (by simpa using m1)) (ag ?_)
   have hcell:=eT (cells.getD (seat % ((cells.map T.int).length:Int)).toNat 0) (b:=2147483629) (by decide)
   refine ag ?_
   refine fZ (fun ha=>fZ (fun hb=>?_) fun hb=>?_) fun ha=>?_
   ·refine ag (ab (wu hm') (ag ?_))
    exact ab (jq hm.1) (fin _ _ (eT _ hm.1).1 (eT _ hm.1).2)
   all_goals
    refine ab (mN (by lia) (by lia)) (ag ?_)
    generalize (cells.getD (seat % ((cells.map T.int).length:Int)).toNat 0 % 2147483629+40503*seat+977) ^ 3=z
    refine ab (my (eT z (by decide)).1 (by lia)) ?_
    refine ab (my h1 (by lia)) ?_
    have hz:=eT z (b:=2147483587) (by decide)
    have hm1:0≤z % 2147483587*(2*seat+5003):=Int.mul_nonneg hz.1 (by lia)
    have hm2:z % 2147483587*(2*seat+5003)≤2147483587*25003:=Int.mul_le_mul (by lia) (by lia) (by lia) (by decide)
    have hm3:0≤seat*seat:=Int.mul_nonneg h1 h1
    have hm4:seat*seat≤10000*10000:=Int.mul_le_mul (by lia) (by lia) h1 (by decide)
    refine ab rfl (ab (mN (by lia) (by lia)) (ag ?_))
    exact ab (jq hm.1) (fin _ _ (eT _ hm.1).1 (eT _ hm.1).2)
  ·refine ag (ag ?_)
   refine fZ (fun ha=>?_) fun ha=>?_
   all_goals
    refine ab (mN (by lia) (by lia)) (ag ?_)
    generalize ((0:Int) % 2147483629+40503*seat+977) ^ 3=z
    refine ab (my (eT z (by decide)).1 (by lia)) ?_
    refine ab (my h1 (by lia)) ?_
    have hz:=eT z (b:=2147483587) (by decide)
    have hm1:0≤z % 2147483587*(2*seat+5003):=Int.mul_nonneg hz.1 (by lia)
    have hm2:z % 2147483587*(2*seat+5003)≤2147483587*25003:=Int.mul_le_mul (by lia) (by lia) (by lia) (by decide)
    have hm3:0≤seat*seat:=Int.mul_nonneg h1 h1
    have hm4:seat*seat≤10000*10000:=Int.mul_le_mul (by lia) (by lia) h1 (by decide)
    refine ab rfl (ab (mN (by lia) (by lia)) (ag ?_))
    exact ab (jq hm.1) (fin _ _ (eT _ hm.1).1 (eT _ hm.1).2)
theorem dD {Q:T→Option T→Prop} (many:Int) (hm:0 < many∧many < 1000) (p:jU) (k:Int) (hp:p.ok k) (hk:k < 10000)
  (h:∀ (d:Int) (p':jU),0≤d→d < many→p'.ok (k+1)→Q (.int d) (some p'.t)):CN (n+1) 71 [.int many] (some p.t) Q:=HQ many hm p.cells p.seat p.great k hp.1 hp.2 hk h
end
section
inductive bj | sg (m:List (Int×Int)) | lg (l:List (Int×Int×Int))
noncomputable abbrev jg (p:Int×Int×Int):T:=.tup [.int p.1,.int p.2.1,.int p.2.2]
noncomputable abbrev P4 (p:Int×Int):T:=.tup [.int p.1,.int p.2]
noncomputable abbrev bj.t:bj→T
 | .sg m=>.tup [.str 16,DI m]
 | .lg l=>.tup [.str 57,.list (l.map jg)]
noncomputable def gl (g:Int):Prop:=0≤g∧g < 12
noncomputable def bj.ok:bj→Prop
 | .sg m=>(keys m).Nodup∧m.length≤3∧∀ p∈m,gl p.1∧gl p.2
 | .lg l=>l.length≤3∧∀ p∈l,gl p.1∧gl p.2.1∧gl p.2.2
theorem fj {d:Int} (h0:0≤d) (h1:d < 1000):bi .range (.int d)=some (.rng d.toNat):=au ⟨h0,by have:(SZ:Int)=1048576:=rfl;lia⟩
noncomputable abbrev ed (i:Nat):T:=.int (Int.ofNat i)
theorem L3 {Q:T→Option T→Prop} (p:jU) (hp:p.ok 0) (h:∀ (rows:List bj) (p':jU),rows.length≤4→(∀ r∈rows,r.ok)→p'.ok 50→Q (.list (rows.map bj.t)) (some p'.t)):CN (n+2) 73 [] (some p.t) Q:=by
 refine ao (fd:=qN) rfl rfl rfl (ag (ag ?_))
 refine dD 5 (by decide) p 0 hp (by decide) fun d p1 d0 d1 hp1=>?_
 refine ab rfl (ab (fj d0 (by lia)) (And.intro rfl (ab rfl ?_)))
 refine cv ed (fun s:jU×List bj×Slot=>[(96,.own true s.1.t),(4,.own false (.list (s.2.1.map bj.t))),(105,s.2.2)])
  (fun l s=>s.2.1.length+l.length≤4∧s.1.ok (1+10*s.2.1.length)∧∀ r∈s.2.1,r.ok) ?_ ?_ (List.range d.toNat) (p1,[],.unb) ⟨by rw [eh];show 0+_≤4;lia,⟨hp1.1,by simpa using hp1.2⟩,fun _ h=>nomatch h⟩
 ·rintro i l ⟨p,rows,s⟩ ⟨h1,h2,h3⟩ K k
  dsimp only at h1 h2 h3
  have h1:rows.length+(l.length+1)≤4:=h1
  have add:∀ (r:bj) (p':jU) s',r.ok→p'.ok (1+10*(rows.length+1))→K .next [(96,.own true p'.t),(4,.own false (.list (rows.map bj.t++[r.t]))),(105,s')]:=fun r p' s' hr hp'=>by
   have:=k (p',rows++[r],s') ⟨by dsimp only;rw [bS,mE];lia,by dsimp only;rw [bS,mE];exact hp',fun x hx=>by
    rcases cD.mp hx with hx | hx
    ·exact h3 x hx
    ·rw [aV.mp hx];exact hr⟩
   rw [show (rows++[r]).map bj.t=rows.map bj.t++[r.t] from by simp] at this
   exact this
  have app:∀ t,IW (.list (rows.map bj.t)) t=some (.list (rows.map bj.t++[t])):=fun t=>au (by rw [ba];have:SZ=1048576:=rfl;lia)
  refine ag ?_
  refine dD 2 (by decide) p _ h2 (by lia) fun d p1 d0 d1 hp1=>?_
  refine ab rfl ?_
  refine fZ (fun hd=>?_) fun hd=>?_
  ·refine ag ?_
   have fin:∀ bs:List (Int×Int),bs.length=3→(∀ b∈bs,gl b.1∧gl b.2)→(bj.sg (iJ bs)).ok:=fun bs hb hg=>⟨g9 bs,by have:=j9 bs;lia,fun p hp=>hg p (tQ hp)⟩
   refine eN (ok:=fun _=>True) ed P4 (fun s:Slot×jU=>[(106,s.1),(96,.own true s.2.t),(4,.own false (.list (rows.map bj.t))),(105,.val (ed i))])
    (fun l bs s=>bs.length+l.length=3∧s.2.ok (2+10*rows.length+2*bs.length)∧∀ b∈bs,gl b.1∧gl b.2) (fun _=>trivial) ?_ (List.range 3) (.unb,p1) ⟨rfl,?_,fun _ h=>nomatch h⟩ ?_
   ·rintro j l bs ⟨s,q⟩ ⟨g1,g2,g3⟩ K k1 k2
    dsimp only at g2
    have g1:bs.length+(l.length+1)=3:=g1
    refine ag ?_
    refine dD 12 (by decide) q _ g2 (by lia) fun a q1 a0 a1 hq1=>?_
    refine ab rfl (ag ?_)
    refine dD 12 (by decide) q1 _ hq1 (by lia) fun b q2 b0 b1 hq2=>?_
    refine ab rfl ?_
    exact k1 (a,b) (.val (ed j),q2) ⟨by rw [bS,mE];lia,⟨hq2.1,by have:=hq2.2;rw [bS,mE];dsimp only;lia⟩,fun x hx=>by
     rcases cD.mp hx with hx | hx
     ·exact g3 x hx
     ·refine Eq.symm (aV.mp hx)▸?_;exact ⟨⟨a0,a1⟩,b0,b1⟩⟩
   ·exact ⟨hp1.1,by have:=hp1.2;dsimp only;simp only [List.length_nil];lia⟩
   ·rintro bs ⟨s,q⟩ ⟨g1,g2,g3⟩
    dsimp only at g2
    have g1:bs.length=3:=g1
    refine ab (i4 kI T.int bs (by have:SZ=1048576:=rfl;lia)) ?_
    refine ab (app _) ?_
    exact add (.sg (iJ bs)) q (.val (ed i)) (fin bs g1 g3) ⟨g2.1,by have:=g2.2;lia⟩
  ·refine ag ?_
   refine eN (ok:=fun _=>True) ed jg (fun s:Slot×jU=>[(106,s.1),(96,.own true s.2.t),(4,.own false (.list (rows.map bj.t))),(105,.val (ed i))])
    (fun l bs s=>bs.length+l.length=3∧s.2.ok (2+10*rows.length+3*bs.length)∧∀ b∈bs,gl b.1∧gl b.2.1∧gl b.2.2) (fun _=>trivial) ?_ (List.range 3) (.unb,p1) ⟨rfl,?_,fun _ h=>nomatch h⟩ ?_
   ·rintro j l bs ⟨s,q⟩ ⟨g1,g2,g3⟩ K k1 k2
    dsimp only at g2
    have g1:bs.length+(l.length+1)=3:=g1
    refine ag ?_
    refine dD 12 (by decide) q _ g2 (by lia) fun a q1 a0 a1 hq1=>?_
    refine ab rfl (ag ?_)
    refine dD 12 (by decide) q1 _ hq1 (by lia) fun b q2 b0 b1 hq2=>?_
    refine ab rfl (ag ?_)
    refine dD 12 (by decide) q2 _ hq2 (by lia) fun c q3 c0 c1 hq3=>?_
    refine ab rfl ?_
    exact k1 (a,b,c) (.val (ed j),q3) ⟨by rw [bS,mE];lia,⟨hq3.1,by have:=hq3.2;rw [bS,mE];dsimp only;lia⟩,fun x hx=>by
     rcases cD.mp hx with hx | hx
     ·exact g3 x hx
     ·refine Eq.symm (aV.mp hx)▸?_;exact ⟨⟨a0,a1⟩,⟨b0,b1⟩,c0,c1⟩⟩
   ·exact ⟨hp1.1,by have:=hp1.2;dsimp only;simp only [List.length_nil];lia⟩
   ·rintro bs ⟨s,q⟩ ⟨g1,g2,g3⟩
    dsimp only at g2
    have g1:bs.length=3:=g1
    refine ab (app _) ?_
    exact add (.lg bs) q (.val (ed i)) ⟨by lia,g3⟩ ⟨g2.1,by have:=g2.2;lia⟩
 ·rintro ⟨p,rows,s⟩ ⟨h1,h2,h3⟩
  have h1:rows.length+0≤4:=h1
  have h2:p.ok (1+10*rows.length):=h2
  exact h rows p h1 h3 ⟨h2.1,by have:=h2.2;lia⟩
end
section
noncomputable def rj (m:List (Int×List (Int×Int))) (p:Int×Int×Int):List (Int×List (Int×Int)):=eJ m p.1 ((b7 m p.1).getD []++[p.2])
noncomputable def aQ (l:List (Int×Int×Int)):List (Int×List (Int×Int)):=l.foldl rj []
theorem Ha (m:List (Int×List (Int×Int))) (p:Int×Int×Int) (g:Int):(b7 (rj m p) g).getD []=(b7 m g).getD []++(if p.1=g then [p.2] else []):=by
 unfold rj
 rw [DK]
 by_cases h:p.1=g
 ·rw [au h,au h,h];rfl
 ·rw [av h,av h,cj]
theorem F7 (l:List (Int×Int×Int)) (m:List (Int×List (Int×Int))) (g:Int):(b7 (l.foldl rj m) g).getD []=(b7 m g).getD []++((l.filter fun p=>decide (p.1=g)).map (·.2)):=by
 induction l generalizing m with
 | nil=>simp
 | cons p l ih=>
  rw [List.foldl_cons,ih,Ha,List.filter_cons]
  by_cases h:p.1=g<;>simp [h]
theorem fO (l:List (Int×Int×Int)) (g:Int):(b7 (aQ l) g).getD []=(l.filter fun p=>decide (p.1=g)).map (·.2):=F7 l [] g
theorem yp (l:List (Int×Int×Int)) (m:List (Int×List (Int×Int))) (g:Int):g∈keys (l.foldl rj m)↔g∈keys m∨∃ p∈l,p.1=g:=by
 induction l generalizing m with
 | nil=>simp
 | cons p l ih=>
  rw [List.foldl_cons,ih,rj,ej]
  constructor
  ·rintro ((h | h) | ⟨q,hq,h⟩)
   ·exact .inl h
   ·exact .inr ⟨p,.head _,h.symm⟩
   ·exact .inr ⟨q,.tail _ hq,h⟩
  ·rintro (h | ⟨q,hq,h⟩)
   ·exact .inl (.inl h)
   ·rcases aU.mp hq with rfl | hq
    ·exact .inl (.inr h.symm)
    ·exact .inr ⟨q,hq,h⟩
theorem iT (l:List (Int×Int×Int)) (g:Int):g∈keys (aQ l)↔∃ p∈l,p.1=g:=by
 have:=yp l [] g
 unfold aQ
 simpa [keys] using this
structure Gl (m:List (Int×List (Int×Int))) (k:Nat):Prop where
 nd:(keys m).Nodup
 len:m.length≤k
 rows:∀ p∈m,p.2≠[]∧p.2.length≤k
theorem Gl.put {m:List (Int×List (Int×Int))} {k:Nat} (h:Gl m k) (p:Int×Int×Int):Gl (rj m p) (k+1):=by
 refine ⟨eA h.nd,aI (iA _ _ _).2 (gC h.len),fun q hq=>?_⟩
 rcases xI hq with hq | rfl
 ·exact ⟨(h.rows q hq).1,Nat.le_succ_of_le (h.rows q hq).2⟩
 ·refine ⟨by simp,?_⟩
  induction e:b7 m p.1 with
  | none=>simp
  | some v=>have:=(h.rows _ (cY e)).2;simp;exact this
theorem Gl.fold (l:List (Int×Int×Int)):∀ {m:List (Int×List (Int×Int))} {k:Nat},Gl m k→Gl (l.foldl rj m) (k+l.length):=by
 induction l with
 | nil=>exact fun h=>h
 | cons p l ih=>
  intro m k h
  have:=ih (h.put p)
  rw [show k+1+l.length=k+(p::l).length by simp;lia] at this
  exact this
theorem jP {l:List (Int×Int×Int)}:Gl (aQ l) l.length:=by
 have:=Gl.fold l (m:=[]) (k:=0) ⟨cJ,Nat.le_refl _,fun _ h=>nomatch h⟩
 rwa [Nat.zero_add] at this
noncomputable abbrev bj.look:bj→T
 | .sg m=>be 16 (.list [fG (DI m)])
 | .lg l=>be 57 (.list [pi (DL (aQ l))])
section
variable {n:Nat} {Q:T→Option T→Prop}
theorem Ck {m:List (Int×Int)} (h:m.length≤8):bi .dict (DI m)=some (DI m):=by
 show (if jo (em kI T.int m)=true then some (T.dict _) else none)=_
 rw [au]
 unfold jo em
 rw [ba,br h,Bool.true_and,Bool.or_eq_true]
 left
 rw [List.all_map,aY]
 intro p _;rfl
theorem xQ {r:bj} (hr:match r with | .sg m=>m.length≤8 | .lg l=>l.length < 100) (h:Q r.look none):CN (n+2) 74 [r.t] none Q:=by
 induction r with
 | sg m=>
  refine ao (fd:=iU) rfl rfl rfl (ag ?_)
  refine ag (ab (Ck hr) (And.intro (by decide) (wl _ (And.intro rfl ?_))))
  exact And.intro (by decide) (ir _ _ (And.intro rfl h))
 | lg l=>
  refine ao (fd:=iU) rfl rfl rfl (ag (ag (ag (And.intro rfl ?_))))
  refine cv jg (fun s:List (Int×List (Int×Int))×Slot×Slot×Slot=>[(10,.val (bj.lg l).t),(8,.own false (DL s.1)),(9,s.2.1),(107,s.2.2.1),(63,s.2.2.2)])
   (fun r s=>∃ done,l=done++r∧s.1=done.foldl rj []∧Gl s.1 done.length) ?_ ?_ l ([],.unb,.unb,.unb) ⟨[],rfl,rfl,⟨cJ,Nat.le_refl _,fun _ h=>nomatch h⟩⟩
  ·rintro p r ⟨m,s1,s2,s3⟩ ⟨done,e,em',gk⟩ K k
   dsimp only at em' gk
   have hl:done.length < 100:=by
    have hr:l.length < 100:=hr
    rw [e,bS] at hr;lia
   refine And.intro rfl (ab (lJ kI gE m p.1 (.list [])) ?_)
   have hg:((b7 m p.1).map gE).getD (.list [])=gE ((b7 m p.1).getD []):=by cases b7 m p.1<;>rfl
   rw [hg]
   have hrl:((b7 m p.1).getD []).length≤done.length:=by
    induction e:b7 m p.1 with
    | none=>exact cr _
    | some v=>exact (gk.rows _ (cY e)).2
   refine ab (add_list (by simp;lia)) (ag ?_)
   rw [show ((b7 m p.1).getD []).map (gX true)++[T.tup [.tup [.int p.2.1],.int p.2.2]]=((b7 m p.1).getD []++[p.2]).map (gX true) from by rw [dK];rfl]
   refine ab (gj kI gE gk.nd (by have:=gk.len;have:SZ=1048576:=rfl;lia) p.1 _) ?_
   exact k (rj m p,.val (.int p.1),.val (.int p.2.1),.val (.int p.2.2)) ⟨done++[p],by rw [e];simp,by rw [List.foldl_append,← em'];rfl,by rw [bS];exact gk.put p⟩
  ·rintro ⟨m,s1,s2,s3⟩ ⟨done,e,em',gk⟩
   dsimp only at em' gk
   rw [cj] at e
   subst e
   have em':m=aQ l:=em'
   subst em'
   refine And.intro (by decide) (I8 _ (And.intro rfl ?_))
   exact And.intro (by decide) (ir _ _ (And.intro rfl h))
end
end
section
noncomputable def bj.cl (r:bj) (P:Int→Prop):Prop:=match r with
 | .sg m=>∀ p∈m,P p.1→P p.2
 | .lg l=>∀ p∈l,P p.1→P p.2.1→P p.2.2
structure OZ (base:List Int) (R:List bj) (S:List Int):Prop where
 sub:∀ x∈base,x∈S
 least:∀ P:Int→Prop,(∀ x∈base,P x)→(∀ r∈R,r.cl P)→∀ x∈S,P x
 clos:∀ r∈R,r.cl (·∈S)
theorem OZ.ext {S':List Int} {R:List bj} (h:OZ base R S) (h':OZ base R S') (x:Int):x∈S↔x∈S':=
 ⟨h.least (·∈S') h'.sub h'.clos x,h'.least (·∈S) h.sub h.clos x⟩
noncomputable abbrev HS (hs:List Int):T:=D kI (fun _:Unit=>T.bool true) (hs.map fun k=>(k,()))
noncomputable def ig (hs:List Int) (k:Int):List Int:=if k∈hs then hs else hs++[k]
theorem hX (hs:List Int):keys (hs.map fun k=>(k,()))=hs:=by
 rw [keys,cp];exact List.map_id _
theorem z5 (hs:List Int) (k:Int):eJ (hs.map fun k=>(k,())) k ()=(ig hs k).map fun k=>(k,()):=by
 unfold ig
 by_cases h:k∈hs
 ·rw [au h]
  induction hs with
  | nil=>exact nomatch h
  | cons a hs ih=>
   rw [c8,eJ]
   by_cases e:a=k
   ·rw [au e]
   ·rw [av e,ih ((aU.mp h).resolve_left (Ne.symm e))]
 ·rw [av h,jM _ (by rw [hX];exact h),dK];rfl
theorem D6 (hs:List Int) (k:Int):(b7 (hs.map fun k=>(k,())) k).isSome=decide (k∈hs):=by
 have:=fp (m:=hs.map fun k=>(k,())) (k:=k)
 rw [hX] at this
 induction h:(b7 (hs.map fun k=>(k,())) k).isSome with
 | true=>exact (br (this.mp h)).symm
 | false=>exact (eK fun c=>by rw [this.mpr c] at h;exact nomatch h).symm
theorem qK (nd:hs.Nodup) (hl:hs.length < 1000) (k:Int):j5 (HS hs) (.int k) (.bool true)=some (HS (ig hs k)):=by
 have:=gj kI (fun _:Unit=>T.bool true) (m:=hs.map fun k=>(k,())) (by rw [hX];exact nd) (by rw [ba];have:SZ=1048576:=rfl;lia) k ()
 rw [z5] at this;exact this
theorem N1 (hs:List Int) (k:Int):kD .In (.int k) (HS hs)=some (decide (k∈hs)):=by rw [jJ kI,D6]
theorem Pe (hs:List Int):bi .len (HS hs)=some (.int hs.length):=by rw [Ke,ba]
theorem gt (nd:hs.Nodup) (hl:hs.length < 60):bi .sorted (HS hs)=some (.list ((canon hs).map .int)):=by
 rw [eI _ (by rw [hX];exact nd) (by rw [ba];exact hl),hX]
theorem zu {l:List Int} (nd:l.Nodup) (hl:l.length < 1000):bi .dict (.list (l.map fun k=>.tup [.int k,.bool true]))=some (HS l):=by
 have:=i4 kI (fun _:Unit=>T.bool true) (l.map fun k=>(k,())) (by rw [ba];have:SZ=1048576:=rfl;lia)
 rw [iE (by rw [hX];exact nd),cp] at this
 exact this
structure Gr (rs:List bj) (hs hs':List Int):Prop where
 pre:hs <+: hs'
 nd:hs'.Nodup
 gl:∀ x∈hs',gl x
 least:∀ P:Int→Prop,(∀ x∈hs,P x)→(∀ r∈rs,r.cl P)→∀ x∈hs',P x
theorem Gr.refl (nd:hs.Nodup) (g:∀ x∈hs,Nc.gl x):Gr rs hs hs:=⟨List.prefix_refl _,nd,g,fun _ h _=>h⟩
theorem Gr.trans {c:List Int} (x:Gr rs a b) (y:Gr rs b c):Gr rs a c:=⟨x.pre.trans y.pre,y.nd,y.gl,fun P h hr=>y.least P (x.least P h hr) hr⟩
theorem Gr.more {rs':List bj} (x:Gr rs a b) (h:∀ r∈rs,r∈rs'):Gr rs' a b:=⟨x.pre,x.nd,x.gl,fun P hp hr=>x.least P hp fun r m=>hr r (h r m)⟩
theorem j2 (nd:hs.Nodup) (g:∀ x∈hs,gl x):hs.length≤12:=by
 have h:(hs.map Int.toNat).Nodup:=by
  rw [List.nodup_iff_pairwise_ne,List.pairwise_map]
  exact (List.nodup_iff_pairwise_ne.mp nd).imp_of_mem fun {a b} ha hb hne e=>hne ((Int.toNat_of_nonneg (g a ha).1).symm.trans ((aw Int.ofNat e).trans (Int.toNat_of_nonneg (g b hb).1)))
 have h2:(hs.map Int.toNat)⊆List.range 12:=fun y hy=>by
  obtain ⟨x,hx,rfl⟩:=bo.mp hy
  exact List.mem_range.mpr ((Int.toNat_lt (g x hx).1).mpr (g x hx).2)
 have hp:(hs.map Int.toNat).Perm ((List.range 12).filter fun i=>decide (i∈hs.map Int.toNat)):=(List.perm_ext_iff_of_nodup h (List.nodup_range.sublist fR)).mpr fun i=>by
  rw [b8]
  exact ⟨fun m=>⟨h2 m,br m⟩,fun m=>bI m.2⟩
 have:=hp.length_eq
 rw [ba] at this
 rw [this]
 exact gH _ _
theorem Gr.len (x:Gr rs a b):b.length≤12:=j2 x.nd x.gl
theorem Gr.add (x:Gr rs a b) {k:Int} (g:Nc.gl k) (h:∀ P:Int→Prop,(∀ x∈b,P x)→(∀ r∈rs,r.cl P)→P k):Gr rs a (ig b k):=by
 unfold ig
 by_cases c:k∈b
 ·rw [au c];exact x
 ·rw [av c]
  refine ⟨x.pre.trans (List.prefix_append _ _),?_,fun y hy=>?_,fun P h1 h2 y hy=>?_⟩
  ·rw [cF]
   exact ⟨x.nd,by simp,fun p hp q hq e=>c (by rw [aV] at hq;rw [← hq,← e];exact hp)⟩
  ·rcases cD.mp hy with hy | hy
   ·exact x.gl y hy
   ·rw [aV.mp hy];exact g
  ·have hb:=x.least P h1 h2
   rcases cD.mp hy with hy | hy
   ·exact hb y hy
   ·rw [aV.mp hy];exact h P hb h2
end
section
noncomputable abbrev bj.kind:bj→Nat | .sg _=>16 | .lg _=>57
noncomputable abbrev bj.tab:bj→T | .sg m=>fG (DI m) | .lg l=>pi (DL (aQ l))
theorem bj.look_eq (r:bj):r.look=be r.kind (.list [r.tab]):=by induction r<;>rfl
noncomputable def kW (r:bj) (g:Int) (hs:List Int):List Int:=match r with
 | .sg m=>(b7 m g).toList
 | .lg l=>(((b7 (aQ l) g).getD []).filter fun p=>decide (p.1∈hs)).map (·.2)
theorem HU {r:bj} (hr:r.ok) {g:Int} {x:Int} (h:x∈kW r g hs):gl x:=by
 induction r with
 | sg m=>
  obtain ⟨_,_,h3⟩:=hr
  have h:x∈(b7 m g).toList:=h
  induction e:b7 m g with
  | none=>rw [e] at h;exact nomatch h
  | some v=>rw [e] at h;cases aV.mp h;exact (h3 _ (cY e)).2
 | lg l=>
  obtain ⟨p,hp,rfl⟩:=bo.mp (show x∈(((b7 (aQ l) g).getD []).filter fun p=>decide (p.1∈hs)).map (·.2) from h)
  have:=(b8.mp hp).1
  rw [fO] at this
  obtain ⟨q,hq,rfl⟩:=bo.mp this
  exact (hr.2 q (b8.mp hq).1).2.2
theorem HM {r:bj} {g:Int} {x:Int} (h:x∈kW r g hs) (hg:g∈hs) (P:Int→Prop) (hp:∀ y∈hs,P y) (hc:r.cl P):P x:=by
 induction r with
 | sg m=>
  have h:x∈(b7 m g).toList:=h
  induction e:b7 m g with
  | none=>rw [e] at h;exact nomatch h
  | some v=>rw [e] at h;cases aV.mp h;exact hc _ (cY e) (hp g hg)
 | lg l=>
  obtain ⟨p,hm,rfl⟩:=bo.mp (show x∈(((b7 (aQ l) g).getD []).filter fun p=>decide (p.1∈hs)).map (·.2) from h)
  obtain ⟨h1,h2⟩:=b8.mp hm
  rw [fO] at h1
  obtain ⟨q,hq,rfl⟩:=bo.mp h1
  obtain ⟨h3,h4⟩:=b8.mp hq
  have h4:q.1=g:=bI h4
  exact hc q h3 (by rw [h4];exact hp g hg) (hp _ (bI h2))
theorem IB {r:bj} (hr:r.ok) (h:∀ g∈hs,∀ x∈kW r g hs,x∈hs):r.cl (·∈hs):=by
 induction r with
 | sg m=>
  intro p hp h1
  refine h p.1 h1 p.2 ?_
  show p.2∈(b7 m p.1).toList
  rw [dw hr.1 (show (p.1,p.2)∈m from hp)];exact aV.mpr rfl
 | lg l=>
  intro p hp h1 h2
  refine h p.1 h1 p.2.2 ?_
  show p.2.2∈(((b7 (aQ l) p.1).getD []).filter fun p=>decide (p.1∈hs)).map (·.2)
  rw [fO]
  exact bo.mpr ⟨p.2,b8.mpr ⟨bo.mpr ⟨p,b8.mpr ⟨hp,br rfl⟩,rfl⟩,br h2⟩,rfl⟩
section
variable {n:Nat} {Q:T→Option T→Prop}
theorem tV (m:List (Int×List (Int×Int))) (g:Int):((b7 m g).map gE).getD (.list [])=gE ((b7 m g).getD []):=by cases b7 m g<;>rfl
theorem zi (m:List (Int×List (Int×Int))) (g:Int) (hs:List Int) (h:Q (.list ((((b7 m g).getD []).filter fun p=>decide (p.1∈hs)).map fun p=>T.int p.2)) (some (HS hs))):CN (n+1) 32 [pi (DL m),.int g] (some (HS hs)) Q:=by
 refine ao (fd:=gN) rfl rfl rfl (And.intro rfl (ab (lJ kI gE m g (.list [])) ?_))
 rw [tV]
 refine bg (gX true) (fun x=>decide (x.1∈hs)) (fun x=>.int x.2) (fun s:Slot×Slot=>[(43,s.1),(57,s.2),(26,.val (pi (DL m))),(7,.val (.int g)),(25,.own true (HS hs))]) (fun x=>(.val (.tup [.int x.1]),.val (.int x.2))) (fun _=>trivial) _ (fun x hx s K k=>?_) (fun x hx hp K k=>?_) (.unb,.unb) fun s=>h
 ·refine dT (ab (N1 hs x.1) ?_)
  refine ag (cK ?_)
  induction q:decide (x.1∈hs) with
  | false=>rw [q] at k;exact k
  | true=>rw [q] at k;exact k
 ·exact k _
theorem Cb (r:bj) (g:Int) (hs:List Int) (h:Q (.list ((kW r g hs).map .int)) (some (HS hs))):CN (n+2) 33 [.str r.kind,r.tab,.int g] (some (HS hs)) Q:=by
 induction r with
 | sg m=>
  refine ao (fd:=nP) rfl rfl rfl (ab (qw kI T.int m g) ?_)
  have h:Q (.list ((b7 m g).toList.map .int)) (some (HS hs)):=h
  induction e:b7 m g with
  | none=>rw [e] at h;exact h
  | some v=>
   rw [e] at h
   exact ab (bE kI T.int e) h
 | lg l=>
  refine ao (fd:=nP) rfl rfl rfl (ag ?_)
  refine zi (aQ l) g hs (ab rfl ?_)
  have e:kW (.lg l) g hs=(((b7 (aQ l) g).getD []).filter fun p=>decide (p.1∈hs)).map (·.2):=rfl
  rw [e,cp] at h
  exact h
theorem yL {c:List Int} (h1:a <+: b) (h2:b <+: c) (e:c=a):b=a:=by
 subst e
 exact h2.eq_of_length (Nat.le_antisymm h2.length_le h1.length_le)
theorem sW (r:bj) (hr:r.ok) (gs hs:List Int) (nd:hs.Nodup) (hg:∀ x∈hs,gl x) (sub:∀ g∈gs,g∈hs)
  (h:∀ hs',Gr [r] hs hs'→(hs'=hs→∀ g∈gs,∀ x∈kW r g hs,x∈hs)→Q (.list []) (some (HS hs'))):CN (n+3) 34 [r.look,.tup (gs.map .int)] (some (HS hs)) Q:=by
 rw [bj.look_eq]
 refine ao (fd:=kL) rfl rfl rfl (ag (And.intro rfl (ab rfl ?_)))
 refine cv T.int (fun s:List Int×Slot×Slot×Slot=>[(47,.val (be r.kind (.list [r.tab]))),(14,.val (.tup (gs.map .int))),(25,.own true (HS s.1)),(60,.own false (.list [])),(7,s.2.1),(26,s.2.2.1),(63,s.2.2.2)])
  (fun l s=>∃ done,gs=done++l∧Gr [r] hs s.1∧(s.1=hs→∀ g∈done,∀ x∈kW r g hs,x∈hs)) ?_ ?_ gs (hs,.unb,.unb,.unb) ⟨[],rfl,.refl nd hg,fun _ _ h=>nomatch h⟩
 ·rintro g l ⟨hc,s1,s2,s3⟩ ⟨done,e,gr,cl⟩ K k
  dsimp only at gr cl
  have hgc:g∈hc:=gr.pre.subset (sub g (by rw [e];simp))
  refine And.intro rfl (ab rfl (re ?_))
  have kind:([T.str 61,T.str 62].any (PA r.kind))=false:=by induction r<;>rfl
  refine fJ kind ?_
  refine ag (Cb r g hc (ab rfl (And.intro rfl (ab rfl ?_))))
  refine cv T.int (fun s:List Int×Slot=>[(47,.val (be r.kind (.list [r.tab]))),(14,.val (.tup (gs.map .int))),(25,.own true (HS s.1)),(60,.own false (.list [])),(7,.val (.int g)),(26,.val r.tab),(63,s.2)])
   (fun l2 s=>∃ done2,kW r g hc=done2++l2∧Gr [r] hs s.1∧hc <+: s.1∧(s.1=hc→∀ x∈done2,x∈hc)) ?_ ?_ (kW r g hc) (hc,s3) ⟨[],rfl,gr,List.prefix_refl _,fun _ _ h=>nomatch h⟩
  ·rintro x l2 ⟨hd,t⟩ ⟨done2,e2,gr2,pre2,cl2⟩ K2 k2
   dsimp only at gr2 pre2 cl2
   have hx:x∈kW r g hc:=by rw [e2];simp
   refine ag (ab (qK gr2.nd (by have:=gr2.len;lia) x) ?_)
   refine k2 (ig hd x,.val (.int x)) ⟨done2++[x],by rw [e2];simp,gr2.add (HU hr hx) (fun P hp hc'=>HM hx hgc P (fun y hy=>hp y (pre2.subset hy)) (hc' r (.head _))),?_,?_⟩
   ·show hc <+: ig hd x
    unfold ig
    by_cases c:x∈hd
    ·rw [au c];exact pre2
    ·rw [av c];exact pre2.trans (List.prefix_append _ _)
   ·intro e3 y hy
    have e3:ig hd x=hc:=e3
    have xin:x∈hc:=by
     rw [← e3];unfold ig
     by_cases c:x∈hd
     ·rw [au c];exact c
     ·rw [av c];simp
    rcases cD.mp hy with hy | hy
    ·refine cl2 (yL pre2 ?_ e3) y hy
     unfold ig
     by_cases c:x∈hd
     ·rw [au c];exact List.prefix_refl _
     ·rw [av c];exact List.prefix_append _ _
    ·rw [aV.mp hy];exact xin
  ·rintro ⟨hd,t⟩ ⟨done2,e2,gr2,pre2,cl2⟩
   dsimp only at gr2 pre2 cl2
   rw [cj] at e2
   subst e2
   refine uD (k (hd,.val (.int g),.val r.tab,t) ⟨done++[g],by rw [e];simp,gr2,fun e3=>?_⟩)
   have e3:hd=hs:=e3
   have e4:hc=hs:=yL gr.pre pre2 e3
   intro g' hg' x hx
   rcases cD.mp hg' with hg' | hg'
   ·exact cl e4 g' hg' x hx
   ·rw [aV.mp hg'] at hx
    subst e4
    exact cl2 e3 x hx
 ·rintro ⟨hc,s1,s2,s3⟩ ⟨done,e,gr,cl⟩
  rw [cj] at e
  subst e
  exact h hc gr cl
end
end
section
noncomputable abbrev PX:KE Int:=⟨fun k=>.T [k],fun k=>.tup [.int k],fun a b h=>by
 have:=bL.T.inj h
 simpa using this,2,fun _=>rfl,fun _=>rfl,fun _=>rfl⟩
noncomputable abbrev bT (_:Unit):T:=.bool true
noncomputable abbrev bl (scr tag:T) (named:List Int) (ls:List T):T:=FJ scr (.list [oq tag (.list (named.map .int))]) (.list ls)
structure fB (named:List Int) (k:Nat):Prop where
 inc:named.Pairwise (· < ·)
 in_:∀ x∈named,0≤x∧x < k
theorem fB.nd {named:List Int} {k:Nat} (h:fB named k):named.Nodup:=List.nodup_iff_pairwise_ne.mpr (h.inc.imp fun h=>by lia)
theorem fB.canon {named:List Int} {k:Nat} (h:fB named k):canon named=named:=bV (aJ named) h.inc fun _=>aN
theorem qG {i:Int} {t:T} (h0:0≤i) (h:xs[i.toNat]? = some t):getItem (.list xs) (.int i)=some t:=by
 show (idxOf i xs.length).bind (fun j=>xs[j]?)=_
 unfold idxOf
 rw [au h0,au (g8.mp h).1,fN,h]
section
variable {n:Nat} {Q:T→Option T→Prop}
theorem G7 (scr tag:T) (named:List Int) (ls:List T) (ok:fB named ls.length) (hl:named.length < 60) (h:Q (.list (named.map .int)) none):CN (n+1) 31 [bl scr tag named ls] none Q:=by
 refine ao (fd:=i8) rfl rfl rfl (ag (And.intro rfl (ab rfl (re ?_))))
 refine And.intro rfl (ab rfl ?_)
 refine cv T.int (fun s:List Int×Slot=>[(55,.val (bl scr tag named ls)),(54,.own false (HS s.1)),(46,.val (oq tag (.list (named.map .int)))),(56,s.2)])
  (fun l s=>s.1++l=named) ?_ ?_ named ([],.unb) rfl
 ·rintro x l ⟨hs,s⟩ e K k
  have e:hs++x::l=named:=e
  obtain ⟨h0,h1⟩:=ok.in_ x (by rw [← e];simp)
  have nd:=ok.nd
  rw [← e,cF] at nd
  refine ff (br h0) (ff (br h1) ?_)
  refine ag (ab (qK nd.1 (by have:=aw List.length e;rw [bS] at this;lia) x) ?_)
  have hx:ig hs x=hs++[x]:=av fun c=>nd.2.2 x c x (.head _) rfl
  rw [hx]
  exact k (hs++[x],.val (.int x)) (by show (hs++[x])++l=named;rw [← e];simp)
 ·rintro ⟨hs,s⟩ e
  have e:hs++[]=named:=e
  rw [cj] at e
  subst e
  refine uD (ab (gt ok.nd hl) ?_)
  rw [ok.canon];exact h
theorem G2 (h:xs.length < 1000):AX (.list xs) (.list [])=some (.list xs):=by
 have e:AX (.list xs) (.list [])=some (.list (xs++[])):=au (by rw [List.length_nil];have:SZ=1048576:=rfl;lia)
 rw [e,cj]
noncomputable abbrev OK (named:List Int):T:=.list (named.map fun k=>.tup [.int k,.tup []])
noncomputable abbrev PP (scr tag:T) (named:List Int) (ls:List T) (hs:List Int) (s56:Slot) (done:List Int) (at_:Int) (s67 s13:Slot):Env:=
 [(55,.val (bl scr tag named ls)),(25,.own true (HS hs)),(56,s56),(64,.own false (OK named)),(65,.own false (D PX bT (done.map fun k=>(k,())))),(66,.val (.int at_)),(67,s67),(13,s13)]
theorem uS (scr tag:T) (named:List Int) (rows:List bj) (hr:∀ r∈rows,r.ok) (ok:fB named rows.length) (hl:named.length < 60) (hs:List Int) (nd:hs.Nodup) (hg:∀ x∈hs,gl x) (R:List bj) (hR:R=named.map fun k=>rows.getD k.toNat (.sg []))
  (h:∀ hs',Gr R hs hs'→(hs'=hs→∀ r∈R,r.cl (·∈hs))→Q .none (some (HS hs'))):CN (n+4) 35 [bl scr tag named (rows.map bj.look)] (some (HS hs)) Q:=by
 refine ao (fd:=mY) rfl rfl rfl (ag (G7 scr tag named _ (by rw [ba];exact ok) hl ?_))
 refine bc T.int (fun k=>.tup [.int k,.tup []]) (fun s:Slot=>[(56,s),(55,.val (bl scr tag named (rows.map bj.look))),(25,.own true (HS hs)),(56,.unb),(64,.unb),(65,.unb),(66,.unb),(67,.unb),(13,.unb)]) (fun _=>trivial) named (fun x hx s K k=>?_) .unb fun s=>?_
 ·exact k _
 refine ag (ag (ag ?_))
 have hsub:∀ k∈named,rows.getD k.toNat (.sg [])∈rows∧(rows.map bj.look)[k.toNat]? = some (rows.getD k.toNat (.sg [])).look:=fun k hk=>by
  have:=ok.in_ k hk
  have hlt:k.toNat < rows.length:=by lia
  rw [hQ,dL,cq hlt]
  exact ⟨List.getElem_mem hlt,rfl⟩
 refine lC (fun s:(List Int×List Int×Int)×Slot×Slot×Slot=>PP scr tag named (rows.map bj.look) s.1.1 s.2.1 s.1.2.1 s.1.2.2 s.2.2.1 s.2.2.2)
  (fun s=>dQ s.2.2.2∧∃ l,named=s.1.2.1++l∧s.1.2.2=s.1.2.1.length∧Gr R hs s.1.1∧(s.1.1=hs→∀ k∈s.1.2.1,(rows.getD k.toNat (.sg [])).cl (·∈hs))) (fun s=>named.length - s.1.2.1.length) ?_ ((hs,[],0),.unb,.unb,.unb) ⟨trivial,named,rfl,rfl,.refl nd hg,fun _ _ h=>nomatch h⟩
 rintro ⟨⟨hc,done,at_⟩,s56,s67,s13⟩ ⟨nf,l,e,ea,gr,cl⟩ K k1 k2
 dsimp only at e ea gr cl
 subst ea
 refine fZ (fun hlt=>?_) fun hge=>?_
 ·induction l with
  | nil=>rw [cj] at e;subst e;simp at hlt
  | cons x l=>
   have hx:x∈named:=by rw [e];simp
   have hat:(named.map fun k=>T.tup [.int k,.tup []])[(done.length:Int).toNat]? = some (.tup [.int x,.tup []]):=by
    rw [e];simp
   obtain ⟨x0,x1⟩:=ok.in_ x hx
   obtain ⟨rin,rat⟩:=hsub x hx
   have ndn:=ok.nd
   rw [e,cF] at ndn
   have hxd:x∉done:=fun c=>ndn.2.2 x c x (.head _) rfl
   have hkeys:keys (done.map fun k=>(k,()))=done:=hX done
   have hdl:done.length < 60:=by have:=aw List.length e;rw [bS] at this;lia
   refine ag (ab (qG (hE _) hat) ?_)
   refine ag (And.intro nf ?_)
   refine ab (jJ PX bT (done.map fun k=>(k,())) x) ?_
   refine fJ (by rw [D6];exact eK hxd) ?_
   refine ff (br x0) (fJ ?_ ?_)
   ·show (!decide (x < ((rows.map bj.look).length:Int)))=false
    rw [ba,br x1];rfl
   refine ag (ab (gj PX bT (m:=done.map fun k=>(k,())) (by rw [hkeys];exact ndn.1) (by rw [ba];have:SZ=1048576:=rfl;lia) x ()) ?_)
   rw [z5,show ig done x=done++[x] from av hxd]
   refine ag (ag ?_)
   refine ab (qG x0 rat) ?_
   refine ab (gt (hs:=hc) gr.nd (by have:=gr.len;lia)) ?_
   refine sW _ (hr _ rin) (canon hc) hc gr.nd gr.gl (fun g hg=>aN.mp hg) fun hs' g2 cl2=>?_
   refine ab rfl (ab (G2 (by rw [ba];lia)) ?_)
   have rR:rows.getD x.toNat (.sg [])∈R:=by rw [hR];exact bo.mpr ⟨x,hx,rfl⟩
   refine k1 ((hs',done++[x],(done.length:Int)+1),.val (.int x),.val (.tup []),.val (.tup [.int x])) ⟨trivial,l,by rw [e];simp,by simp,gr.trans (g2.more fun r hm=>by rw [aV.mp hm];exact rR),fun e3 k hk=>?_⟩ ?_
   ·have e3:hs'=hs:=e3
    have e4:hc=hs:=yL gr.pre g2.pre e3
    rcases cD.mp hk with hk | hk
    ·exact cl e4 k hk
    ·rw [aV.mp hk]
     subst e4
     exact IB (hr _ rin) fun g hg=>cl2 e3 g (aN.mpr hg)
   ·show named.length - (done++[x]).length < named.length - done.length
    rw [e];simp;lia
 ·have hd:l=[]:=by
   induction l with
   | nil=>rfl
   | cons x l=>rw [e] at hge;simp at hge;lia
  subst hd
  rw [cj] at e
  refine h hc gr fun e2 r hm=>?_
  rw [hR] at hm
  obtain ⟨k,hk,rfl⟩:=bo.mp hm
  rw [e] at hk
  exact cl e2 k hk
end
end
section
section
variable {n:Nat} {Q:T→Option T→Prop}
structure fV (base:List Int) (R:List bj) (S:List Int):Prop where
 lfp:OZ base R S
 inc:S.Pairwise (· < ·)
 gl:∀ x∈S,gl x
theorem fV.nd {R:List bj} (h:fV base R S):S.Nodup:=List.nodup_iff_pairwise_ne.mpr (h.inc.imp fun h=>by lia)
theorem fV.eq {base':List Int} {R:List bj} {S':List Int} (h:fV base R S) (h':fV base' R S') (e:∀ x,x∈base↔x∈base'):S=S':=by
 refine bV h.inc h'.inc fun x=>?_
 exact h.lfp.ext ⟨fun x hx=>h'.lfp.sub x ((e x).mp hx),fun P hp=>h'.lfp.least P fun x hx=>hp x ((e x).mpr hx),h'.lfp.clos⟩ x
theorem fV.len {R:List bj} (h:fV base R S):S.length≤12:=j2 h.nd h.gl
theorem FG {r:bj} {P P':Int→Prop} (h:∀ x,P x↔P' x) (c:r.cl P):r.cl P':=by
 induction r with
 | sg m=>exact fun p hp h1=>(h _).mp (c p hp ((h _).mpr h1))
 | lg l=>exact fun p hp h1 h2=>(h _).mp (c p hp ((h _).mpr h1) ((h _).mpr h2))
theorem K8 (n:Nat):(-1:Int)≤n:=Int.le_trans (by decide) (hE n)
theorem Kv (n:Nat):(-1:Int)≠n:=fun e=>nomatch e
theorem PU {x:Nat} {k:Int} (h1:-1≤k) (hlt:k < x) (h:x≤12):(13 - (x:Int)).toNat < (13 - k).toNat:=by lia
theorem v5 (scr tag:T) (named:List Int) (rows:List bj) (hr:∀ r∈rows,r.ok) (ok:fB named rows.length) (hl:named.length < 60) (gs:List Int) (nd:gs.Nodup) (hg:∀ x∈gs,gl x) (R:List bj) (hR:R=named.map fun k=>rows.getD k.toNat (.sg []))
  (h:∀ S,fV gs R S→Q (.list (S.map .int)) none):CN (n+5) 36 [bl scr tag named (rows.map bj.look),.list (gs.map .int)] none Q:=by
 refine ao (fd:=ml) rfl rfl rfl ?_
 refine bc T.int (fun k=>.tup [.int k,.bool true]) (fun s:Slot=>[(7,s),(55,.val (bl scr tag named (rows.map bj.look))),(14,.val (.list (gs.map .int))),(25,.unb),(68,.unb)]) (fun _=>trivial) gs (fun x hx s K k=>?_) .unb fun s=>?_
 ·exact k _
 refine ab (zu nd (by have:=j2 nd hg;lia)) (ag (ag ?_))
 refine lC (fun s:List Int×Int=>[(55,.val (bl scr tag named (rows.map bj.look))),(14,.val (.list (gs.map .int))),(25,.own false (HS s.1)),(68,.val (.int s.2))])
  (fun s=>Gr R gs s.1∧-1≤s.2∧s.2≤s.1.length∧(s.2=s.1.length→∀ r∈R,r.cl (·∈s.1))) (fun s=>(13 - s.2).toNat) (fun s g K k1 k2=>?_) (gs,-1) ⟨.refl nd hg,Int.le_refl _,K8 gs.length,fun e=>absurd e (Kv gs.length)⟩
 have hem:((em kI (fun _:Unit=>T.bool true) (s.1.map fun k=>(k,()))).length:Int)=s.1.length:=by unfold em;rw [ba,ba]
 refine fZ (fun hlt=>?_) fun hge=>?_
 ·refine ag (ag (uS scr tag named rows hr ok hl s.1 g.1.nd g.1.gl R hR fun hs' g2 cl2=>ab rfl ?_))
  have hlt:s.2 < s.1.length:=hem▸bI hlt
  refine k1 (hs',((em kI (fun _:Unit=>T.bool true) (s.1.map fun k=>(k,()))).length:Int)) (hem▸⟨g.1.trans g2,Int.le_trans (by decide) (hE _),Int.ofNat_le.mpr g2.pre.length_le,fun e=>?_⟩) (by rw [hem];exact PU g.2.1 hlt g.1.len)
  have e2:hs'=s.1:=(g2.pre.eq_of_length (Int.ofNat.inj e)).symm
  rw [e2] at cl2 ⊢
  exact cl2 rfl
 ·have cl:=g.2.2.2 (Int.le_antisymm g.2.2.1 (Int.not_lt.mp (hem▸of_decide_eq_false hge)))
  refine ab (gt (hs:=s.1) g.1.nd (eG g.1.len (by decide))) ?_
  exact h _ ⟨⟨fun x hx=>aN.mpr (g.1.pre.subset hx),fun P hp hc x hx=>g.1.least P hp hc x (aN.mp hx),fun r hr=>FG (fun x=>aN.symm) (cl r hr)⟩,aJ _,fun x hx=>g.1.gl x (aN.mp hx)⟩
theorem Bf {c m g p k:T} {s:T} (gs:List Int) (nd:gs.Nodup) (hg:∀ x∈gs,gl x) (R:List bj)
  (hs:(s=.none∧R=[])∨∃ (scr tag:T) (named:List Int) (rows:List bj),s=bl scr tag named (rows.map bj.look)∧(∀ r∈rows,r.ok)∧fB named rows.length∧named.length < 60∧R=named.map fun k=>rows.getD k.toNat (.sg []))
  (h:∀ S,fV gs R S→Q (.list (S.map .int)) none):CN (n+6) 37 [qY c m g s p k,.list (gs.map .int)] none Q:=by
 rcases hs with ⟨rfl,rfl⟩ | ⟨scr,tag,named,rows,rfl,hr,ok,hl,hR⟩
 ·refine ao (fd:=no) rfl rfl rfl ?_
  refine bc T.int (fun k=>.tup [.int k,.bool true]) (fun s:Slot=>[(7,s),(69,.val (qY c m g .none p k)),(14,.val (.list (gs.map .int)))]) (fun _=>trivial) gs (fun x hx s K k=>?_) .unb fun s=>?_
  ·exact k _
  refine ab (zu nd (by have:=j2 nd hg;lia)) ?_
  refine ab (gt nd (by have:=j2 nd hg;lia)) ?_
  exact h _ ⟨⟨fun x hx=>aN.mpr hx,fun P hp _ x hx=>hp x (aN.mp hx),fun r hr=>nomatch hr⟩,aJ _,fun x hx=>hg x (aN.mp hx)⟩
 ·refine ao (fd:=no) rfl rfl rfl (ag ?_)
  exact v5 scr tag named rows hr ok hl gs nd hg R hR h
structure GS (rs:List bj) (a b:List Int):Prop where
 sub:∀ x∈a,x∈b
 inc:b.Pairwise (· < ·)
 gl:∀ x∈b,gl x
 least:∀ P:Int→Prop,(∀ x∈a,P x)→(∀ r∈rs,r.cl P)→∀ x∈b,P x
theorem GS.len (h:GS rs a b):b.length≤12:=j2 (List.nodup_iff_pairwise_ne.mpr (h.inc.imp fun h=>by lia)) h.gl
theorem ec (h:a.Pairwise (· < ·)):a.Nodup:=List.nodup_iff_pairwise_ne.mpr (h.imp fun h=>by lia)
theorem GS.refl (h:a.Pairwise (· < ·)) (g:∀ x∈a,Nc.gl x):GS rs a a:=⟨fun _ h=>h,h,g,fun _ h _=>h⟩
theorem GS.trans {c:List Int} (x:GS rs a b) (y:GS rs b c):GS rs a c:=⟨fun z h=>y.sub z (x.sub z h),y.inc,y.gl,fun P h hr=>y.least P (x.least P h hr) hr⟩
theorem z9 (ha:a.Nodup) (hb:b.Nodup) (sub:∀ x∈a,x∈b):a.length≤b.length:=by
 have hp:a.Perm (b.filter fun x=>decide (x∈a)):=(List.perm_ext_iff_of_nodup ha (hb.sublist fR)).mpr fun y=>by
  rw [b8];exact ⟨fun m=>⟨sub y m,br m⟩,fun m=>bI m.2⟩
 rw [hp.length_eq];exact gH _ _
theorem Dt (ha:a.Pairwise (· < ·)) (hb:b.Pairwise (· < ·)) (sub:∀ x∈a,x∈b) (l:b.length≤a.length):b=a:=by
 refine bV hb ha fun x=>⟨fun hx=>?_,sub x⟩
 have hp:a.Perm (b.filter fun x=>decide (x∈a)):=(List.perm_ext_iff_of_nodup (ec ha) ((ec hb).sublist fR)).mpr fun y=>by
  rw [b8];exact ⟨fun m=>⟨sub y m,br m⟩,fun m=>bI m.2⟩
 have e:(b.filter fun x=>decide (x∈a))=b:=fR.eq_of_length (Nat.le_antisymm (gH _ _) (by rw [← hp.length_eq];exact l))
 rw [← e] at hx
 exact bI (b8.mp hx).2
noncomputable def fM (r:bj) (S:List Int):List Int:=match r with
 | .sg m=>((keys m).filter fun k=>S.contains k).map fun k=>(b7 m k).getD 0
 | .lg l=>(l.filter fun p=>S.contains p.1&&S.contains p.2.1).map (·.2.2)
theorem sq {r:bj} (hr:r.ok) {x:Int} (h:x∈fM r S):gl x∧∀ P:Int→Prop,(∀ y∈S,P y)→r.cl P→P x:=by
 induction r with
 | sg m=>
  obtain ⟨k,hk,rfl⟩:=bo.mp (show x∈((keys m).filter fun k=>S.contains k).map fun k=>(b7 m k).getD 0 from h)
  obtain ⟨h1,h2⟩:=b8.mp hk
  obtain ⟨v,hv⟩:=cA h1
  rw [hv]
  exact ⟨(hr.2.2 _ (cY hv)).2,fun P hp hc=>hc _ (cY hv) (hp k (fK.mp h2))⟩
 | lg l=>
  obtain ⟨p,hp,rfl⟩:=bo.mp (show x∈(l.filter fun p=>S.contains p.1&&S.contains p.2.1).map (·.2.2) from h)
  obtain ⟨h1,h2⟩:=b8.mp hp
  rw [bC] at h2
  exact ⟨(hr.2 p h1).2.2,fun P hp hc=>hc p h1 (hp _ (fK.mp h2.1)) (hp _ (fK.mp h2.2))⟩
theorem CZ {r:bj} (hr:r.ok) (h:∀ x∈fM r S,x∈S):r.cl (·∈S):=by
 induction r with
 | sg m=>
  intro p hp h1
  have hv:=dw hr.1 (show (p.1,p.2)∈m from hp)
  refine h p.2 (bo.mpr ⟨p.1,b8.mpr ⟨fp.mp (by rw [hv];rfl),fK.mpr h1⟩,by rw [hv];rfl⟩)
 | lg l=>exact fun p hp h1 h2=>h _ (bo.mpr ⟨p,b8.mpr ⟨hp,by rw [bC];exact ⟨fK.mpr h1,fK.mpr h2⟩⟩,rfl⟩)
theorem Bc {r:bj} (hr:r.ok) (S:List Int):(fM r S).length≤3:=by
 induction r with
 | sg m=>
  show (((keys m).filter fun k=>S.contains k).map fun k=>(b7 m k).getD 0).length≤3
  rw [ba]
  refine aI (gH _ _) ?_
  rw [bF];exact hr.2.1
 | lg l=>
  show ((l.filter fun p=>S.contains p.1&&S.contains p.2.1).map (·.2.2)).length≤3
  rw [ba]
  exact aI (gH _ _) hr.1
theorem qo {l:List Int} (h:l.length≤1000):bi .set (.list (l.map T.int))=some (.set (canon l)):=by
 show (if (l.map T.int).length≤1000 then (c6 (l.map T.int)).map fun l=>T.set (canon l) else none)=_
 rw [au (by rw [ba];exact h),hM];rfl
theorem Iz (h:a.length+b.length≤15) (ha:∀ x∈a,gl x) (hb:∀ x∈b,gl x):s8 .BitOr (.set a) (.set b)=some (.set (canon (a++b))):=by
 refine au ?_
 unfold Iw
 rw [br h,Bool.true_and,bC,aY,aY]
 refine ⟨fun x hx=>br ?_,fun x hx=>br ?_⟩
 ·have:=ha x hx;unfold gl at this;lia
 ·have:=hb x hx;unfold gl at this;lia
theorem GS.step (x:GS rs a b) {r:bj} (hr:r.ok) (hm:r∈rs):GS rs a (canon (b++canon (fM r b))):=by
 have mem:∀ y,y∈canon (b++canon (fM r b))↔y∈b∨y∈fM r b:=fun y=>by rw [aN,cD,aN]
 exact ⟨fun y h=>(mem y).mpr (.inl (x.sub y h)),aJ _,fun y h=>((mem y).mp h).elim (x.gl y) fun h=>(sq hr h).1,
  fun P hp hc y h=>((mem y).mp h).elim (x.least P hp hc y) fun h=>(sq hr h).2 P (x.least P hp hc) (hc r hm)⟩
end
end
section
section
variable {n:Nat} {Q:T→Option T→Prop}
noncomputable abbrev EH (S:List Int) (R:List bj) (known:Int) (s21 s108:Slot):Env:=[(25,.val (.set S)),(4,.val (.list (R.map bj.t))),(68,.val (.int known)),(21,s21),(108,s108)]
theorem DO (base:List Int) (hb:base.Pairwise (· < ·)) (hg:∀ x∈base,gl x) (R:List bj) (hr:∀ r∈R,r.ok) (h:∀ S,fV base R S→Q (.list (S.map .int)) none):CN (n+1) 75 [.set base,.list (R.map bj.t)] none Q:=by
 refine ao (fd:=mG) rfl rfl rfl (ag ?_)
 refine lC (fun s:List Int×Int×Slot×Slot=>EH s.1 R s.2.1 s.2.2.1 s.2.2.2)
  (fun s=>GS R base s.1∧-1≤s.2.1∧s.2.1≤s.1.length∧(s.2.1=s.1.length→∀ r∈R,r.cl (·∈s.1))) (fun s=>(13 - s.2.1).toNat) ?_ (base,-1,.unb,.unb) ⟨.refl hb hg,Int.le_refl _,by show (-1:Int)≤_;lia,fun e=>by have e:(-1:Int)=base.length:=e;lia⟩
 rintro ⟨S,known,s21,s108⟩ ⟨gr,h1,h2,cl⟩ K k1 k2
 dsimp only at gr h1 h2 cl
 refine fZ (fun hlt=>?_) fun hge=>?_
 ·have hlt:known < (S.length:Int):=bI hlt
  refine ag (And.intro rfl (ab rfl ?_))
  refine cv bj.t (fun s:List Int×Slot×Slot=>EH s.1 R S.length s.2.1 s.2.2) (fun l s=>∃ done,R=done++l∧GS R S s.1∧(s.1=S→∀ r∈done,r.cl (·∈S))) ?_ ?_ R (S,s21,s108) ⟨[],rfl,.refl gr.inc gr.gl,fun _ _ h=>nomatch h⟩
  ·rintro r l ⟨S',t21,t108⟩ ⟨done,e,g2,c2⟩ K2 k2
   dsimp only at g2 c2
   have hm:r∈R:=by rw [e];simp
   have go:∀ t21 t108,K2 .next (EH (canon (S'++canon (fM r S'))) R S.length t21 t108):=fun t21 t108=>by
    refine k2 (_,t21,t108) ⟨done++[r],by rw [e];simp,g2.trans ((GS.refl g2.inc g2.gl).step (hr r hm) hm),fun e3 r' hr'=>?_⟩
    have e3:canon (S'++canon (fM r S'))=S:=e3
    have e4:S'=S:=Dt gr.inc g2.inc g2.sub (by
     have:∀ x∈S',x∈S:=fun x hx=>by rw [← e3,aN];exact eW _ hx
     exact z9 (ec g2.inc) (ec gr.inc) this)
    rcases cD.mp hr' with hr' | hr'
    ·exact c2 e4 r' hr'
    ·rw [aV.mp hr']
     subst e4
     exact CZ (hr r hm) fun x hx=>by rw [← e3,aN];exact du _ (aN.mpr hx)
   have hl3:=Bc (hr r hm) S'
   have join:s8 .BitOr (.set S') (.set (canon (fM r S')))=some (.set (canon (S'++canon (fM r S')))):=
    Iz (by have:=g2.len;have:=bK (fM r S');lia) g2.gl fun x hx=>(sq (hr r hm) (aN.mp hx)).1
   induction r with
   | sg m=>
    refine gv kI T.int (bg T.int (fun k=>S'.contains k) (fun k=>.int ((b7 m k).getD 0)) (fun s:Slot=>(7,s)::EH S' R S.length (.val (.str 16)) (.val (DI m))) (fun k=>.val (.int k)) (fun _=>trivial) (keys m) (fun x hx s K k=>?_) (fun x hx hp K k=>?_) .unb fun s=>?_)
    ·induction q:S'.contains x with
     | false=>rw [q] at k;exact fJ q k
     | true=>rw [q] at k;exact ff q k
    ·obtain ⟨v,hv⟩:=cA hx
     rw [hv] at k
     exact ag (ab (bE kI T.int hv) (k _))
    ·refine ab (a:=T.set (canon (fM (.sg m) S'))) ?_ ?_
     ·have:=qo (l:=fM (.sg m) S') (by lia)
      rw [show (fM (.sg m) S').map T.int=((keys m).filter fun k=>S'.contains k).map fun k=>T.int ((b7 m k).getD 0) from by
       show (((keys m).filter fun k=>S'.contains k).map fun k=>(b7 m k).getD 0).map T.int=_
       rw [cp];rfl] at this
      exact this
     ·exact ab join (ag (go _ _))
   | lg l=>
    refine bg jg (fun p=>S'.contains p.1&&S'.contains p.2.1) (fun p=>.int p.2.2) (fun s:Slot×Slot×Slot=>(9,s.1)::(107,s.2.1)::(63,s.2.2)::EH S' R S.length (.val (.str 57)) (.val (.list (l.map jg)))) (fun p=>(.val (.int p.1),.val (.int p.2.1),.val (.int p.2.2))) (fun _=>trivial) l (fun x hx s K k=>?_) (fun x hx hp K k=>?_) (.unb,.unb,.unb) fun s=>?_
    ·induction q:S'.contains x.1 with
     | false=>rw [q] at k;exact fJ q k
     | true=>
      induction q':S'.contains x.2.1 with
      | false=>rw [q,q'] at k;exact ff q (fJ q' k)
      | true=>rw [q,q'] at k;exact ff q (ff q' k)
    ·exact k _
    ·refine ab (a:=T.set (canon (fM (.lg l) S'))) ?_ ?_
     ·have:=qo (l:=fM (.lg l) S') (by lia)
      rw [show (fM (.lg l) S').map T.int=(l.filter fun p=>S'.contains p.1&&S'.contains p.2.1).map fun p=>T.int p.2.2 from by
       show ((l.filter fun p=>S'.contains p.1&&S'.contains p.2.1).map (·.2.2)).map T.int=_
       rw [cp];rfl] at this
      exact this
     ·exact ab join (ag (go _ _))
  ·rintro ⟨S',t21,t108⟩ ⟨done,e,g2,c2⟩
   dsimp only at g2 c2
   rw [cj] at e
   subst e
   refine k1 (S',S.length,t21,t108) ⟨gr.trans g2,by dsimp only;lia,?_,fun e=>?_⟩ ?_
   ·have:=z9 (ec gr.inc) (ec g2.inc) g2.sub
    dsimp only;lia
   ·have e:(S.length:Int)=S'.length:=e
    have e4:S'=S:=Dt gr.inc g2.inc g2.sub (by lia)
    subst e4
    exact c2 rfl
   ·show (13 - (S.length:Int)).toNat < (13 - known).toNat
    have:=gr.len;lia
 ·have hge:¬ known < (S.length:Int):=of_decide_eq_false hge
  refine ab (zn (l:=S) (by have:=gr.len;lia)) ?_
  exact h S ⟨⟨gr.sub,gr.least,cl (by lia)⟩,gr.inc,gr.gl⟩
end
end
section
noncomputable def B4 (x:Int):Bool:=decide (x < 97∨(101 < x∧x≠500))
noncomputable def F4 (t:T):Option (Int×Int):=(vg t).bind fun p=>(gm p.1).bind fun a=>(gm p.2).map fun b=>(a,b)
theorem Ad {t:T} {p:Int×Int} (h:F4 t=some p):t=.tup [.int p.1,.int p.2]:=dy h fun q h1 h=>dy h fun a h2 h=>eU h fun b h3 e=>by rw [e,rh h1,cB h2,cB h3]
noncomputable def og (t:T):Bool:=(F4 t).any fun p=>B4 p.1&&B4 p.2
noncomputable def F6 (t:T):Bool:=(F4 t).any fun p=>decide ((p.1+2*p.2 < 97∨500 < p.1)∧0≤p.2∧p.2≤14)
theorem x5 {t:T} (h:og t=true):∃ a b,t=.tup [.int a,.int b]∧B4 a=true∧B4 b=true:=by
 obtain ⟨p,e,h⟩:=N6 h
 exact ⟨p.1,p.2,Ad e,cz.mp h⟩
theorem Bd {t:T} (h:F6 t=true):∃ a b,t=.tup [.int a,.int b]∧(a+2*b < 97∨500 < a)∧0≤b∧b≤14:=by
 obtain ⟨p,e,h⟩:=N6 h
 exact ⟨p.1,p.2,Ad e,bI h⟩
theorem Pc {b:Int} (h:b≤14):b < 1000:=by lia
theorem Mb {a b:Int} {i:Nat} (h:a+2*b < 97∨500 < a) (hi:i < b.toNat):B4 (a+2*Int.ofNat i)=true∧B4 (a+2*Int.ofNat i+1)=true:=by
 have:Int.ofNat i=(i:Int):=rfl
 exact ⟨br (by lia),br (by lia)⟩
theorem J5 {x y l:Nat} {b:Int} (e:y=b.toNat) (h:b≤14) (g:x+15*(l+1)≤620):x+y < 1000∧x+y+15*l≤620:=by lia
theorem KL {x y l:Nat} (g:x+2*(l+1)≤1400) (h:y≤x+1):x < 1048576∧y < 1048576:=by lia
theorem Ht {x y z l:Nat} (g:x+2*(l+1)≤1400) (h:y≤x+1) (h2:z≤y+1):z+2*l≤1400:=by lia
section
variable {n:Nat} {Q:T→Option T→Prop}
theorem E4 {ys:List T} (h:xs.length+ys.length < 1000):AX (.list xs) (.list ys)=some (.list (xs++ys)):=au (by have:SZ=1048576:=rfl;lia)
theorem KJ (h:∀ xs:List T,xs.all og=true→xs.length≤20→Q (.list xs) none):CN (n+1) 54 [] none Q:=
 ao (fd:=lX) rfl rfl rfl (h _ rfl (by decide))
theorem Nd (h:∀ xs:List T,xs.all F6=true→xs.length≤40→Q (.list xs) none):CN (n+1) 55 [] none Q:=
 ao (fd:=oV) rfl rfl rfl (h _ rfl (by decide))
theorem Fu (h:∀ xs:List T,xs.all og=true→xs.length≤700→Q (.list xs) none):CN (n+2) 56 [] none Q:=by
 refine ao (fd:=jz) rfl rfl rfl (ag (KJ fun M2 h1 h2=>?_))
 refine ag (ag (Nd fun side h3 h4=>?_))
 refine And.intro rfl (ab rfl ?_)
 refine z0 (fun s:List T×Slot×Slot=>[(54,.own false (.list s.1)),(9,s.2.1),(86,s.2.2)]) (fun l s=>l.all F6=true∧s.1.all og=true∧s.1.length+15*l.length≤620) ?_ ?_ side (M2,.unb,.unb) ⟨h3,h1,Nat.add_le_add h2 (Nat.mul_le_mul_left 15 h4)⟩
 ·intro x l s g K k
  obtain ⟨a,b,rfl,h5,h6,h7⟩:=Bd (aY.mp g.1 x (.head _))
  refine ag (ab (fj h6 (Pc h7)) ?_)
  refine eN ed (fun p:Int×Int=>T.tup [.int p.1,.int p.2]) (fun s':Slot=>[(87,s'),(54,.own false (.list s.1)),(9,.val (.int a)),(86,.val (.int b))]) (fun l bs s=>bs.length+l.length=b.toNat∧(∀ i∈l,i < b.toNat)∧∀ p∈bs,B4 p.1=true∧B4 p.2=true) (fun _=>trivial) (fun i r bs s e K2 k1 k2=>?_) (List.range b.toNat) .unb ⟨by rw [eh];exact Nat.zero_add _,fun i hi=>List.mem_range.mp hi,fun _ h=>nomatch h⟩ fun bs s' e=>?_
  ·exact k1 (a+2*Int.ofNat i,a+2*Int.ofNat i+1) (.val (ed i)) ⟨Fh e.1,fun j hj=>e.2.1 j (.tail _ hj),lY e.2.2 (Mb h5 (e.2.1 i (.head _)))⟩
  ·have le:=J5 e.1 h7 g.2.2
   refine ab (E4 (by rw [ba];exact le.1)) ?_
   refine k (s.1++bs.map fun p=>T.tup [.int p.1,.int p.2],.val (.int a),.val (.int b)) ⟨(cz.mp g.1).2,?_,?_⟩
   ·show (s.1++_).all og=true
    rw [List.all_append,g.2.1,Bool.true_and,List.all_map,aY]
    exact fun p hp=>cz.mpr (e.2.2 p hp)
   ·show (s.1++_).length+_≤620
    rw [bS,ba];exact le.2
 ·exact fun s g=>h s.1 g.2.1 (aI g.2.2 (by decide))
theorem Ed (h:∀ m:List (Int×Int),(∀ k∈keys m,B4 k=true)→Q (DI m) none):CN (n+3) 57 [] none Q:=by
 refine ao (fd:=jj) rfl rfl rfl (ag (ag (Fu fun xs h1 h2=>?_)))
 refine And.intro rfl (ab rfl ?_)
 refine z0 (fun s:List (Int×Int)×Slot×Slot=>[(26,.own false (DI s.1)),(37,s.2.1),(58,s.2.2)]) (fun l s=>l.all og=true∧(∀ k∈keys s.1,B4 k=true)∧(keys s.1).Nodup∧s.1.length+2*l.length≤1400) ?_ ?_ xs ([],.unb,.unb) ⟨h1,(fun k (h:k∈([]:List Int))=>nomatch h),cJ,(Nat.zero_add _).symm▸Nat.mul_le_mul_left 2 h2⟩
 ·intro x l s g K k
  obtain ⟨a,b,rfl,h5,h6⟩:=x5 (aY.mp g.1 x (.head _))
  have l1:=(iA s.1 a b).2
  have lt:=KL g.2.2.2 l1
  refine ag (ab (gj kI T.int g.2.2.1 lt.1 a b) ?_)
  refine ag (ab (gj kI T.int (eA g.2.2.1) lt.2 b a) ?_)
  refine k (eJ (eJ s.1 a b) b a,.val (.int a),.val (.int b)) ⟨(cz.mp g.1).2,fun k hk=>?_,eA (eA g.2.2.1),Ht g.2.2.2 l1 (iA _ b a).2⟩
  exact (ej.mp hk).elim (fun hk=>(ej.mp hk).elim (g.2.1 k) fun e=>e▸h5) fun e=>e▸h6
 ·exact fun s g=>h s.1 g.2.1
theorem xW (cs:List Int) (nd:(32::cs).Nodup) (hc:∀ c∈cs,B4 c=false) (hl:cs.length < 50) (h:Q (HS (32::cs)) none):CN (n+4) 58 [.list (cs.map .int)] none Q:=by
 refine ao (fd:=jm) rfl rfl rfl (ag (ag (Ed fun m hm=>?_)))
 refine ag (And.intro rfl (ab rfl ?_))
 refine cv T.int (fun s:List Int×Slot=>[(1,.val (.list (cs.map .int))),(54,.own false (HS s.1)),(88,.val (DI m)),(2,s.2)]) (fun l s=>s.1++l=32::cs∧∀ c∈l,c∈cs) ?_ ?_ cs ([32],.unb) ⟨rfl,fun _ h=>h⟩
 ·rintro c l ⟨hs,s⟩ ⟨e,hc'⟩ K k
  have e:hs++c::l=32::cs:=e
  have nd':=nd
  rw [← e,cF] at nd'
  have hx:c∉hs:=fun q=>nd'.2.2 c q c (.head _) rfl
  have hlen:hs.length < 100:=by have:=aw List.length e;rw [bS,eH,eH] at this;lia
  have e1:ig hs c=hs++[c]:=av hx
  have nd2:(hs++[c]).Nodup:=by rw [cF];exact ⟨nd'.1,by simp,fun a ha b hb e=>hx (by rw [aV] at hb;rw [← hb,← e];exact ha)⟩
  have e2:ig (hs++[c]) c=hs++[c]:=au (by simp)
  refine ag (ab (qK nd'.1 (by lia) c) ?_)
  rw [e1]
  refine ag (And.intro rfl (ab (lJ kI T.int m c (.int c)) ?_))
  have hn:b7 m c=none:=jI.mpr fun q=>by have:=hc c (hc' c (.head _));rw [hm c q] at this;cases this
  rw [hn]
  refine ab (qK nd2 (by rw [bS,mE];lia) c) ?_
  rw [e2]
  exact k (hs++[c],.val (.int c)) ⟨by show (hs++[c])++l=_;rw [← e];simp,fun x hx=>hc' x (.tail _ hx)⟩
 ·rintro ⟨hs,s⟩ ⟨e,_⟩
  have e:hs++[]=32::cs:=e
  rw [cj] at e
  subst e
  exact h
end
end
section
noncomputable def fT (cm:List (Int×Int)) (k:Int):Int:=(b7 cm k).getD 0
noncomputable def bJ (S:List Int):List (Int×Int):=S.map fun g=>(g,(S.idxOf g:Int))
theorem gy (S:List Int):keys (bJ S)=S:=by
 unfold bJ;rw [keys,cp];exact List.map_id _
theorem dY (nd:S.Nodup) {g:Int} (h:g∈S):b7 (bJ S) g=some (S.idxOf g:Int):=
 dw (by rw [gy];exact nd) (bo.mpr ⟨g,h,rfl⟩)
theorem BN {g:Int} (h:g∉S):b7 (bJ S) g=none:=jI.mpr (by rw [gy];exact h)
theorem c7 (S:List Int) (g:Int):(b7 (bJ S) g).isSome=decide (g∈S):=by
 by_cases h:g∈S
 ·rw [br h,fp,gy];exact h
 ·rw [eK h,BN h];rfl
theorem Hm {l:List Int} {x:Int} (nd:(a++x::l).Nodup):(a++x::l).idxOf x=a.length:=by
 rw [cF] at nd
 have hx:x∉a:=fun q=>nd.2.2 x q x (.head _) rfl
 rw [List.idxOf_append,av hx,List.idxOf_cons_self];simp
section
variable {n:Nat} {Q:T→Option T→Prop}
theorem uz (cm:List (Int×Int)) (k:Int) (h:Q (.int (fT cm k)) none):CN (n+1) 1 [je (DI cm),.int k] none Q:=by
 refine ao (fd:=i5) rfl rfl rfl (And.intro rfl (ab (lJ kI T.int cm k (.int 0)) ?_))
 have e:((b7 cm k).map T.int).getD (.int 0)=.int (fT cm k):=by unfold fT;cases b7 cm k<;>rfl
 rw [e];exact h
theorem mU (cs:T) (h:Q .none none):CN (n+1) 59 [.none,cs] none Q:=ao (fd:=iK) rfl rfl rfl h
theorem Gv (nd:hs.Nodup) (k:Int):(ig hs k).Nodup:=by
 unfold ig
 by_cases c:k∈hs
 ·rw [au c];exact nd
 ·rw [av c,cF]
  exact ⟨nd,by simp,fun p hp q hq e=>c (by rw [aV] at hq;rw [← hq,← e];exact hp)⟩
theorem xJ {k x:Int}:x∈ig hs k↔x∈hs∨x=k:=by
 unfold ig
 by_cases c:k∈hs
 ·rw [au c];exact ⟨.inl,fun h=>h.elim id fun e=>e▸c⟩
 ·rw [av c];simp
theorem GY (cm:List (Int×Int)) (hcm:∀ p∈cm,gl p.2) (ws:List Int) (h:∀ gs:List Int,gs.Pairwise (· < ·)→(∀ x∈gs,gl x)→(∀ x,x∈gs↔x=0∨∃ w∈ws,x=fT cm w)→Q (.list (gs.map .int)) none):CN (n+2) 60 [je (DI cm),HS ws] none Q:=by
 have hgl:∀ k,gl (fT cm k):=fun k=>by
  unfold fT
  induction e:b7 cm k with
  | none=>exact ⟨by decide,by decide⟩
  | some v=>exact hcm _ (cY e)
 refine ao (fd:=jt) rfl rfl rfl (ag (And.intro rfl (ab rfl ?_)))
 refine Fv kI (fun _:Unit=>T.bool true) ?_
 rw [hX]
 refine cv T.int (fun s:List Int×Slot=>[(27,.val (je (DI cm))),(1,.val (HS ws)),(54,.own false (HS s.1)),(2,s.2),(3,.unb),(33,.unb)])
  (fun l s=>∃ done,ws=done++l∧s.1.Nodup∧(∀ x∈s.1,gl x)∧∀ x,x∈s.1↔x=0∨∃ w∈done,x=fT cm w) ?_ ?_ ws ([0],.unb) ⟨[],rfl,by simp,fun x hx=>by rw [aV.mp hx];exact ⟨by decide,by decide⟩,fun x=>by simp⟩
 ·rintro c l ⟨hs,s⟩ ⟨done,e,nd,hg,hm⟩ K k
  dsimp only at nd hg hm
  refine ag (uz cm c ?_)
  refine ab (qK (hs:=hs) nd (by have:=j2 nd hg;lia) _) ?_
  refine k (ig hs (fT cm c),.val (.int c)) ⟨done++[c],by rw [e];simp,Gv nd _,fun x hx=>(xJ.mp hx).elim (hg x) fun e=>e▸hgl c,fun x=>?_⟩
  show x∈ig hs (fT cm c)↔_
  rw [xJ,hm]
  constructor
  ·rintro ((h | ⟨w,hw,h⟩) | h)
   ·exact .inl h
   ·exact .inr ⟨w,eW _ hw,h⟩
   ·exact .inr ⟨c,du _ (aV.mpr rfl),h⟩
  ·rintro (h | ⟨w,hw,h⟩)
   ·exact .inl (.inl h)
   ·rcases cD.mp hw with hw | hw
    ·exact .inl (.inr ⟨w,hw,h⟩)
    ·rw [aV.mp hw] at h;exact .inr h
 ·rintro ⟨hs,s⟩ ⟨done,e,nd,hg,hm⟩
  dsimp only at nd hg hm
  rw [cj] at e
  subst e
  refine ag (mU _ (ag ?_))
  refine ab (gt (hs:=hs) nd (by have:=j2 nd hg;lia)) ?_
  exact h _ (aJ _) (fun x hx=>hg x (aN.mp hx)) fun x=>by rw [aN];exact hm x
theorem tH (S:List Int) (nd:S.Nodup) (hl:S.length < 100) (h:Q (DI (bJ S)) none):CN (n+1) 61 [.list (S.map .int)] none Q:=by
 refine ao (fd:=l7) rfl rfl rfl (ag (And.intro rfl (ab rfl ?_)))
 refine cv T.int (fun s:List (Int×Int)×Slot=>[(14,.val (.list (S.map .int))),(54,.own false (DI s.1)),(7,s.2)]) (fun l s=>∃ done,S=done++l∧s.1=done.map fun g=>(g,(S.idxOf g:Int))) ?_ ?_ S ([],.unb) ⟨[],rfl,rfl⟩
 ·rintro g l ⟨m,s⟩ ⟨done,e,em'⟩ K k
  have em':m=done.map fun g=>(g,(S.idxOf g:Int)):=em'
  have hkm:keys m=done:=by rw [em',keys,cp];exact List.map_id _
  have nd':=nd
  rw [e,cF] at nd'
  have hx:g∉done:=fun q=>nd'.2.2 g q g (.head _) rfl
  have hi:(S.idxOf g:Int)=((em kI T.int m).length:Int):=by
   rw [e,Hm (by rw [← e];exact nd)]
   unfold em;rw [ba,em',ba]
  have hml:m.length=done.length:=by rw [em',ba]
  have hSl:S.length=done.length+(l.length+1):=by rw [e,bS,eH]
  refine ag (ab (gj kI T.int (m:=m) (by rw [hkm];exact nd'.1) (by have:SZ=1048576:=rfl;lia) g ((em kI T.int m).length:Int)) ?_)
  refine k (eJ m g ((em kI T.int m).length:Int),.val (.int g)) ⟨done++[g],by rw [e];simp,?_⟩
  show eJ m g _=_
  rw [jM _ (by rw [hkm];exact hx),dK,← hi,em'];rfl
 ·rintro ⟨m,s⟩ ⟨done,e,em'⟩
  rw [cj] at e
  have em':m=done.map fun g=>(g,(S.idxOf g:Int)):=em'
  subst em'
  rw [show done.map (fun g=>(g,(S.idxOf g:Int)))=bJ S from by rw [← e];rfl]
  exact h
end
end
section
noncomputable abbrev cM (S:List Int) (g:Int):Int:=(S.idxOf g:Int)
theorem kf {a b:Int} (ha:a∈S) (hb:b∈S) (e:cM S a=cM S b):a=b:=by
 have e:S.idxOf a=S.idxOf b:=Int.ofNat.inj e
 have h1:=List.getElem_idxOf (List.idxOf_lt_length_of_mem ha)
 have h2:=List.getElem_idxOf (List.idxOf_lt_length_of_mem hb)
 rw [← h1,← h2];congr 1
theorem mS [DecidableEq κ] {a b:List (κ×ν)} (h:a.Perm b) (nd:(keys a).Nodup) (k:κ):b7 a k=b7 b k:=by
 have nb:(keys b).Nodup:=(h.map Prod.fst).nodup_iff.mp nd
 induction e:b7 a k with
 | some v=>exact (dw nb (h.mem_iff.mp (cY e))).symm
 | none=>
  refine (jI.mpr fun c=>jI.mp e ?_).symm
  exact (h.map Prod.fst).mem_iff.mpr c
noncomputable def I7 (l:List κ) (f:κ→ν):List (κ×ν):=l.map fun c=>(c,f c)
theorem iG (l:List κ) (f:κ→ν):keys (I7 l f)=l:=by unfold I7;rw [keys,cp];exact List.map_id _
theorem Ai [DecidableEq κ] (l:List κ) (f:κ→ν) (k:κ):b7 (I7 l f) k=if k∈l then some (f k) else none:=by
 induction l with
 | nil=>rfl
 | cons a l ih=>
  show (if a=k then some (f a) else b7 (I7 l f) k)=_
  rw [ih]
  by_cases h:a=k
  ·subst h;simp
  ·by_cases q:k∈l
   ·simp [h,q]
   ·simp [h,q,Ne.symm h]
section
variable {n:Nat} {Q:T→Option T→Prop}
theorem lW (S:List Int) (nd:S.Nodup) (ks:List Int) (h:Q (if ks.all (fun k=>decide (k∈S)) then .tup (ks.map fun k=>.int (cM S k)) else .none) none):CN (n+1) 42 [.tup (ks.map .int),DI (bJ S)] none Q:=by
 refine ao (fd:=lZ) rfl rfl rfl (And.intro rfl (ab rfl ?_))
 refine Aa T.int (fun s:Slot=>[(14,.val (.tup (ks.map .int))),(72,.val (DI (bJ S))),(7,s)]) (fun l _=>∃ done,ks=done++l∧∀ x∈done,x∈S) (fun t _=>t=.none∧¬ ∀ x∈ks,x∈S) ?_ ?_ ?_ ks .unb ⟨[],rfl,fun _ h=>nomatch h⟩
 ·intro x xs s ⟨done,e,hd⟩ K k1 k2 k3
  refine ab (qw kI T.int (bJ S) x) ?_
  rw [c7]
  by_cases q:x∈S
  ·rw [br q]
   exact k1 (.val (.int x)) ⟨done++[x],by rw [e];simp,fun y hy=>(cD.mp hy).elim (hd y) fun z=>by rw [aV.mp z];exact q⟩
  ·rw [eK q]
   exact k3 _ (.val (.int x)) ⟨rfl,fun c=>q (c x (by rw [e];simp))⟩
 ·rintro _ s ⟨rfl,e⟩
  rw [av (by simpa [aY] using e)] at h;exact h
 ·intro s ⟨done,e,hd⟩
  rw [cj] at e
  subst e
  rw [au (by simpa [aY] using hd)] at h
  refine bc T.int (fun x=>T.int (cM S x)) (fun t=>[(7,t),(14,.val (.tup (ks.map .int))),(72,.val (DI (bJ S))),(7,s)]) (fun _=>trivial) ks (fun x hx t K k=>?_) .unb fun t=>h
  exact ag (ab (bE kI T.int (dY nd (hd x hx))) (k _))
noncomputable def dB (cm:List (Int×Int)) (S ws:List Int):List (Int×Int):=I7 ((canon ws).filter fun c=>fT cm c != 0) fun c=>cM S (fT cm c)
theorem tD (cm:List (Int×Int)) (S ws:List Int) (nd:S.Nodup) (nw:ws.Nodup) (hl:ws.length < 60) (hS:∀ w∈ws,fT cm w∈S) (h0:∀ g∈S,g≠0→cM S g≠0) (h:Q (je (DI (dB cm S ws))) none):CN (n+2) 62 [je (DI cm),HS ws,DI (bJ S)] none Q:=by
 refine ao (fd:=kH) rfl rfl rfl (ab (gt nw hl) ?_)
 refine q5 kI T.int T.int (fun c=>if fT cm c != 0 then some (c,cM S (fT cm c)) else none) (fun s:Slot=>[(2,s),(27,.val (je (DI cm))),(1,.val (HS ws)),(72,.val (DI (bJ S))),(92,.unb),(3,.unb)]) (fun _=>trivial) (canon ws) (by have:=bK ws;lia) (fun c hc s K k=>?_) .unb fun s=>?_
 ·refine uz cm c (fZ (fun q=>?_) fun q=>?_)
  ·refine ag (uz cm c ?_)
   refine ab (bE kI T.int (dY nd (hS c (aN.mp hc)))) ?_
   have:=k (.val (.int c))
   rw [show (fT cm c != 0)=true from q] at this;exact this
  ·have:=k (.val (.int c))
   rw [show (fT cm c != 0)=false from q] at this;exact this
 ·have e1:iJ ((canon ws).filterMap fun c=>if fT cm c != 0 then some (c,cM S (fT cm c)) else none)=dB cm S ws:=by
   rw [gi (fun c=>fT cm c != 0) (fun c=>(c,cM S (fT cm c)))]
   refine iE ?_
   rw [show keys (((canon ws).filter fun c=>fT cm c != 0).map fun c=>(c,cM S (fT cm c)))=(canon ws).filter fun c=>fT cm c != 0 from iG _ _]
   exact (ec (aJ ws)).sublist fR
  have e2:(dB cm S ws).filter (fun p=>p.2 != 0)=dB cm S ws:=by
   refine List.filter_eq_self.mpr fun p hp=>?_
   obtain ⟨c,hc,rfl⟩:=bo.mp hp
   obtain ⟨h1,h2⟩:=b8.mp hc
   have:=h0 _ (hS c (aN.mp h1)) (by simpa using h2)
   simpa using this
  rw [e1]
  refine ag (ag (mU _ (ag ?_)))
  refine And.intro (by decide) (tY (dB cm S ws) ?_ ?_ ?_ [.none] (.inr rfl))
  ·unfold dB;rw [iG];exact (ec (aJ ws)).sublist fR
  ·rw [← bF];unfold dB;rw [iG]
   have h1:=gH (fun c=>fT cm c != 0) (canon ws)
   have h2:=bK ws
   lia
  ·rw [e2];exact And.intro rfl h
noncomputable abbrev Hu (S:List Int):List T:=S.map fun g=>.int (100+g)
noncomputable abbrev yr:T:=yH (.int 1000) (.int 700) (.int (-200)) (.tup ((List.range 12).map fun i=>.int (100+Int.ofNat i))) (.tup ((List.range 12).map ed))
theorem DU {k:Nat} {t:T} (h:xs[k]? = some t):getItem (.tup xs) (.int (k:Int))=some t:=by
 show (idxOf k xs.length).bind (fun j=>xs[j]?)=_
 unfold idxOf
 rw [au (hE k),Int.toNat_natCast,au (g8.mp h).1,fN];exact h
theorem MA {g:Int} (h:gl g):getItem (.tup ((List.range 12).map fun i=>.int (100+Int.ofNat i))) (.int g)=some (.int (100+g)):=by
 obtain ⟨h0,h1⟩:=h
 obtain ⟨k,rfl⟩:=jl h0
 exact DU (by rw [dL,List.getElem?_range (Int.ofNat_lt.mp h1)];rfl)
theorem IT {g:Int} (h:gl g):getItem (.tup ((List.range 12).map ed)) (.int g)=some (.int g):=by
 obtain ⟨h0,h1⟩:=h
 obtain ⟨k,rfl⟩:=jl h0
 exact DU (by rw [dL,List.getElem?_range (Int.ofNat_lt.mp h1)];rfl)
theorem Bv {g:Int} (hg:gl g) (h:Q (.int (100+g)) none):CN (n+1) 52 [yr,.int g] none Q:=by
 refine ao (fd:=ul) rfl rfl rfl (ff (br hg.1) (ff ?_ ?_))
 ·exact br (by simp;exact hg.2)
 ·exact ab (MA hg) h
theorem B3 {g:Int} (hg:gl g) (h:Q (.int g) none):CN (n+1) 53 [yr,.int g] none Q:=by
 refine ao (fd:=t7) rfl rfl rfl (ff (br hg.1) (ff ?_ ?_))
 ·exact br (by simp;exact hg.2)
 ·exact ab (IT hg) h
theorem sJ (S:List Int) (hg:∀ x∈S,gl x) (h:Q (yH (.int 1000) (.int 700) (.int (-200)) (.tup (Hu S)) (.tup (S.map .int))) none):CN (n+2) 63 [yr,.list (S.map .int)] none Q:=by
 refine ao (fd:=k4) rfl rfl rfl ?_
 refine bc T.int (fun g=>T.int (100+g)) (fun s:Slot=>[(7,s),(28,.val yr),(14,.val (.list (S.map .int))),(51,.unb)]) (fun _=>trivial) S (fun g hm s K k=>?_) .unb fun s=>?_
 ·exact ag (Bv (hg g hm) (k _))
 refine ag ?_
 refine bc T.int T.int (fun s:Slot=>[(7,s),(28,.val yr),(14,.val (.list (S.map .int))),(51,.val (.list (Hu S)))]) (fun _=>trivial) S (fun g hm s K k=>?_) .unb fun s=>?_
 ·exact ag (B3 (hg g hm) (k _))
 exact And.intro (by decide) (uo _ _ _ _ _ (And.intro rfl h))
noncomputable def f8 (cl:List (Int×Int)) (S:List Int) (l:List Int):List (Int×Int):=(l.filter fun g=>decide (g∈S)).map fun g=>(cM S g,(b7 cl g).getD 0)
theorem gF {cl:List (Int×Int)} {l:List Int} (nd:l.Nodup):(keys (f8 cl S l)).Nodup:=by
 unfold f8
 rw [keys,cp,List.nodup_iff_pairwise_ne,List.pairwise_map]
 refine (List.nodup_iff_pairwise_ne.mp (nd.sublist fR)).imp_of_mem fun {a b} ha hb hne e=>hne ?_
 exact kf (bI (b8.mp ha).2) (bI (b8.mp hb).2) e
theorem ip (cl:List (Int×Int)) (nc:(keys cl).Nodup) (hl:cl.length < 60) (S:List Int) (nd:S.Nodup) (h:Q (kC (DI (f8 cl S (canon (keys cl))))) none):CN (n+2) 30 [kC (DI cl),DI (bJ S)] none Q:=by
 refine ao (fd:=ix) rfl rfl rfl (ab (eI T.int nc hl) ?_)
 refine q5 kI T.int T.int (fun g=>if decide (g∈S) then some (cM S g,(b7 cl g).getD 0) else none) (fun s:Slot=>[(7,s),(53,.val (kC (DI cl))),(26,.val (DI (bJ S)))]) (fun _=>trivial) (canon (keys cl)) (by have:=bK (keys cl);rw [bF] at this;lia) (fun g hg s K k=>?_) .unb fun s=>?_
 ·refine ab (jJ kI T.int (bJ S) g) ?_
  rw [c7]
  have:=k (.val (.int g))
  by_cases q:g∈S
  ·rw [br q] at this ⊢
   obtain ⟨v,hv⟩:=cA (dP hg)
   rw [hv] at this
   exact ag (ab (bE kI T.int (dY nd q)) (ab (bE kI T.int hv) this))
  ·rw [eK q] at this ⊢
   exact this
 ·have e1:iJ ((canon (keys cl)).filterMap fun g=>if decide (g∈S) then some (cM S g,(b7 cl g).getD 0) else none)=f8 cl S (canon (keys cl)):=by
   rw [gi (fun g=>decide (g∈S)) (fun g=>(cM S g,(b7 cl g).getD 0))];exact iE (gF (ec (aJ _)))
  rw [e1]
  exact And.intro (by decide) (vy _ (And.intro rfl h))
theorem jB (S:List Int) (h:Q (.dict []) none):CN (n+1) 43 [.dict [],DI (bJ S)] none Q:=
 ao (fd:=k7) rfl rfl rfl (BO h)
theorem zm (cl:List (Int×Int)) (nc:(keys cl).Nodup) (hl:cl.length < 60) (S:List Int) (nd:S.Nodup) (h:Q (uu (kC (DI (f8 cl S (canon (keys cl))))) (kC (DI [])) (.list []) (.dict []) (.dict [])) none) :
  CN (n+3) 64 [uu (kC (DI cl)) (kC (DI [])) (.list []) (.dict []) (.dict []),DI (bJ S)] none Q:=by
 refine ao (fd:=qB) rfl rfl rfl (cK ?_)
 refine ag (ag (jB S ?_))
 refine ag (ag (jB S ?_))
 refine ag (ag (ip cl nc hl S nd ?_))
 refine ag (ip [] cJ (by decide) S nd ?_)
 exact And.intro (by decide) (Ku _ _ _ _ _ rfl rfl (And.intro rfl h))
end
end
section
section
variable {n:Nat} {Q:T→Option T→Prop}
noncomputable abbrev CX (m:List (Int×Int)) (g:Int):Int:=(b7 m g).getD 0
noncomputable def gf (S:List Int) (g:Int):Bool:=decide (g∈S)
theorem dG {g:Int} (h:gf S g=true):g∈S:=bI h
noncomputable def bN (m:List (Int×Int)) (S l:List Int):List (Int×Int):=(l.filter fun g=>gf S g&&gf S (CX m g)).map fun g=>(cM S g,cM S (CX m g))
theorem gw {m:List (Int×Int)} {l:List Int} (nd:l.Nodup):(keys (bN m S l)).Nodup:=by
 unfold bN
 rw [keys,cp,List.nodup_iff_pairwise_ne,List.pairwise_map]
 refine (List.nodup_iff_pairwise_ne.mp (nd.sublist fR)).imp_of_mem fun {a b} ha hb hne e=>hne ?_
 have h1:=(b8.mp ha).2;have h2:=(b8.mp hb).2
 rw [bC] at h1 h2
 exact kf (dG h1.1) (dG h2.1) e
theorem iW (m:List (Int×Int)) (S l:List Int):(bN m S l).length≤l.length:=by unfold bN;rw [ba];exact gH _ _
theorem O2:∀ {s:Slot},s=.unb∨(∃ t,s=.val t)→dQ s
 | _,.inl rfl=>trivial
 | _,.inr ⟨_,rfl⟩=>trivial
theorem uZ (m:List (Int×Int)) (nm:(keys m).Nodup) (hl:m.length < 60) (S:List Int) (nd:S.Nodup) (h:Q (fG (DI (bN m S (canon (keys m))))) none):CN (n+2) 44 [fG (DI m),DI (bJ S)] none Q:=by
 refine ao (fd:=l9) rfl rfl rfl (ag (ab (eI T.int nm hl) (And.intro rfl (ab rfl ?_))))
 have ncan:=ec (aJ (keys m))
 have lcan:(canon (keys m)).length < 60:=by have:=bK (keys m);rw [bF] at this;lia
 refine cv T.int (fun s:List (Int×Int)×Slot×Slot=>[(26,.val (fG (DI m))),(72,.val (DI (bJ S))),(15,.own false (DI s.1)),(7,s.2.1),(10,s.2.2)])
  (fun l s=>∃ done,canon (keys m)=done++l∧s.1=bN m S done∧dQ s.2.2) ?_ ?_ (canon (keys m)) ([],.unb,.unb) ⟨[],rfl,rfl,trivial⟩
 ·rintro g l ⟨m',s7,s10⟩ ⟨done,e,em',nf⟩ K k
  dsimp only at em' nf
  subst em'
  obtain ⟨v,hv⟩:=cA (dP (show g∈canon (keys m) by rw [e];simp))
  have hvo:CX m g=v:=by unfold CX;rw [hv];rfl
  have nd':=ncan
  rw [e] at nd'
  have fold1:bN m S (done++[g])=bN m S done++bN m S [g]:=by unfold bN;rw [List.filter_append,dK]
  have dl:done.length < 60:=by have:=aw List.length e;rw [bS] at this;lia
  refine ag (ab (bE kI T.int hv) ?_)
  refine lW S nd [g,v] ?_
  refine And.intro nf ?_
  by_cases q:g∈S∧v∈S
  ·rw [au (by simp [q.1,q.2])]
   have e1:bN m S [g]=[(cM S g,cM S v)]:=by unfold bN gf;rw [List.filter_cons,hvo];simp [q.1,q.2,hvo]
   have hk:cM S g∉keys (bN m S done):=fun c=>by
    have:=gw (m:=m) (S:=S) (l:=done++[g]) (nd'.sublist (by simp))
    rw [fold1,e1,keys,dK,cF] at this
    exact this.2.2 _ c _ (.head _) rfl
   refine ag (ag (ag ?_))
   have hs:=gj kI T.int (m:=bN m S done) (gw (nd'.sublist (List.sublist_append_left _ _))) (by have:=iW m S done;have:SZ=1048576:=rfl;lia) (cM S g) (cM S v)
   rw [jM _ hk] at hs
   refine ab hs ?_
   exact k (bN m S done++[(cM S g,cM S v)],.val (.int g),.val _) ⟨done++[g],by rw [e];simp,by rw [fold1,e1],trivial⟩
  ·rw [av (by simpa using q)]
   have e1:bN m S [g]=[]:=by
    unfold bN gf;rw [List.filter_cons,hvo,av (by simpa using q)];rfl
   exact k (bN m S done,.val (.int g),.val .none) ⟨done++[g],by rw [e];simp,by rw [fold1,e1];simp,trivial⟩
 ·rintro ⟨m',s7,s10⟩ ⟨done,e,em',nf⟩
  dsimp only at em' nf
  subst em'
  rw [cj] at e
  subst e
  exact And.intro (by decide) (wl _ (And.intro rfl h))
end
end
section
noncomputable def v9 (S:List Int) (p:Int×Int×Int):Bool:=gf S p.1&&(gf S p.2.1&&gf S p.2.2)
noncomputable def JC (S:List Int) (p:Int×Int×Int):Int×Int×Int:=(cM S p.1,cM S p.2.1,cM S p.2.2)
noncomputable def aT (S:List Int) (l:List (Int×Int×Int)):List (Int×Int×Int):=(l.filter (v9 S)).map (JC S)
noncomputable def iZ (m:List (Int×List (Int×Int))) (f:Int):List (Int×Int×Int):=((b7 m f).getD []).map fun q=>(f,q)
noncomputable def eV (m:List (Int×List (Int×Int))) (l:List Int):List (Int×Int×Int):=l.flatMap (iZ m)
theorem xy (S:List Int) (a b:List (Int×Int×Int)):aT S (a++b)=aT S a++aT S b:=by unfold aT;rw [List.filter_append,dK]
theorem hV (S:List Int) (a:List (Int×Int×Int)):(aT S a).length≤a.length:=by unfold aT;rw [ba];exact gH _ _
section
variable {n:Nat} {Q:T→Option T→Prop}
noncomputable abbrev LV (m:List (Int×List (Int×Int))) (S:List Int) (l:List (Int×Int×Int)) (a b c d:Slot):Env:=[(26,.val (pi (DL m))),(72,.val (DI (bJ S))),(8,.own false (DL (aQ l))),(9,a),(43,b),(57,c),(10,d)]
theorem CM (m:List (Int×List (Int×Int))) (gk:Gl m 4) (S:List Int) (nd:S.Nodup) (h:Q (pi (DL (aQ (aT S (eV m (canon (keys m))))))) none):CN (n+2) 45 [pi (DL m),DI (bJ S)] none Q:=by
 refine ao (fd:=jS) rfl rfl rfl (ag (ab (eI gE gk.nd (by have:=gk.len;lia)) (And.intro rfl (ab rfl ?_))))
 have lcan:(canon (keys m)).length≤4:=by have:=bK (keys m);rw [bF] at this;have:=gk.len;lia
 have hrow:∀ f,(iZ m f).length≤4:=fun f=>by
  unfold iZ
  rw [ba]
  induction e:b7 m f with
  | none=>exact cr _
  | some v=>exact (gk.rows _ (cY e)).2
 have hlen:∀ l:List Int,(eV m l).length≤4*l.length:=fun l=>by
  induction l with
  | nil=>exact Nat.le_refl _
  | cons f l ih=>unfold eV at ih ⊢;rw [List.flatMap_cons,bS,eH];have:=hrow f;lia
 refine cv T.int (fun s:List (Int×Int×Int)×Slot×Slot×Slot×Slot=>LV m S s.1 s.2.1 s.2.2.1 s.2.2.2.1 s.2.2.2.2)
  (fun l s=>∃ done,canon (keys m)=done++l∧s.1=aT S (eV m done)∧dQ s.2.2.2.2) ?_ ?_ (canon (keys m)) ([],.unb,.unb,.unb,.unb) ⟨[],rfl,rfl,trivial⟩
 ·rintro f l ⟨l',a,b,c,d⟩ ⟨done,e,el,nf⟩ K k
  dsimp only at el nf
  have hdl:(eV m done).length≤16:=by
   have h1:=hlen done
   have:=aw List.length e;rw [bS] at this;lia
  obtain ⟨v,hv⟩:=cA (dP (show f∈canon (keys m) by rw [e];simp))
  have hvl:v.length≤4:=(gk.rows _ (cY hv)).2
  have hrv:iZ m f=v.map fun q=>(f,q):=by unfold iZ;rw [hv];rfl
  refine ab (bE kI gE hv) (And.intro rfl (ab rfl ?_))
  refine cv (gX true) (fun s:List (Int×Int×Int)×Slot×Slot×Slot=>LV m S s.1 (.val (.int f)) s.2.1 s.2.2.1 s.2.2.2)
   (fun r s=>∃ dn,v=dn++r∧s.1=aT S (eV m done++dn.map fun q=>(f,q))∧dQ s.2.2.2) ?_ ?_ v (l',b,c,d) ⟨[],rfl,by rw [el];simp,nf⟩
  ·rintro q r ⟨l2,b,c,d⟩ ⟨dn,e2,el2,nf2⟩ K2 k2
   dsimp only at el2 nf2
   have hdn:dn.length≤4:=by have:=aw List.length e2;rw [bS] at this;lia
   have h2len:l2.length≤20:=by
    have h1:=hV S (eV m done++dn.map fun q=>(f,q))
    rw [← el2,bS,ba] at h1;lia
   have gk2:=jP (l:=l2)
   have nxt:aT S (eV m done++(dn++[q]).map fun q=>(f,q))=l2++aT S [(f,q)]:=by
    rw [el2,← xy,List.append_assoc];simp
   refine ag ?_
   refine lW S nd [f,q.1,q.2] ?_
   refine And.intro nf2 ?_
   by_cases hq:f∈S∧q.1∈S∧q.2∈S
   ·rw [au (by simp [hq.1,hq.2.1,hq.2.2])]
    have e1:aT S [(f,q)]=[JC S (f,q)]:=by unfold aT v9 gf;rw [List.filter_cons];simp [hq.1,hq.2.1,hq.2.2]
    refine And.intro rfl (ag (ab (lJ kI gE (aQ l2) (cM S f) (.list [])) ?_))
    rw [tV]
    have hrl:((b7 (aQ l2) (cM S f)).getD []).length≤20:=by
     induction e:b7 (aQ l2) (cM S f) with
     | none=>exact cr _
     | some v=>exact aI (gk2.rows _ (cY e)).2 h2len
    refine ag (ab (add_list (ys:=[T.tup [.tup [.int (cM S q.1)],.int (cM S q.2)]]) (by rw [ba,mE];lia)) (ag (ag ?_)))
    rw [show ((b7 (aQ l2) (cM S f)).getD []).map (gX true)++[T.tup [.tup [.int (cM S q.1)],.int (cM S q.2)]]=((b7 (aQ l2) (cM S f)).getD []++[(cM S q.1,cM S q.2)]).map (gX true) from by rw [dK];rfl]
    refine ab (gj kI gE (m:=aQ l2) gk2.nd (by have:=gk2.len;have:SZ=1048576:=rfl;lia) (cM S f) _) ?_
    have e3:aQ (l2++[JC S (f,q)])=rj (aQ l2) (JC S (f,q)):=by unfold aQ;rw [List.foldl_append];rfl
    have:=k2 (l2++[JC S (f,q)],.val (.tup [.int q.1]),.val (.int q.2),.val (.tup ([f,q.1,q.2].map fun k=>.int (cM S k)))) ⟨dn++[q],by rw [e2];simp,by rw [nxt,e1],trivial⟩
    dsimp only at this
    unfold LV at this
    rw [e3] at this
    exact this
   ·rw [av (by simpa using hq)]
    have e1:aT S [(f,q)]=[]:=by unfold aT v9 gf;rw [List.filter_cons,av (by simpa using hq)];rfl
    exact k2 (l2,.val (.tup [.int q.1]),.val (.int q.2),.val .none) ⟨dn++[q],by rw [e2];simp,by rw [nxt,e1];simp,trivial⟩
  ·rintro ⟨l2,b,c,d⟩ ⟨dn,e2,el2,nf2⟩
   dsimp only at el2 nf2
   rw [cj] at e2
   subst e2
   exact k (l2,.val (.int f),b,c,d) ⟨done++[f],by rw [e];simp,by dsimp only;rw [el2];unfold eV;rw [List.flatMap_append,List.flatMap_singleton,hrv],nf2⟩
 ·rintro ⟨l',a,b,c,d⟩ ⟨done,e,el,nf⟩
  dsimp only at el nf
  subst el
  rw [cj] at e
  subst e
  exact And.intro (by decide) (I8 _ (And.intro rfl h))
noncomputable def sC (S:List Int) (p:Int×Int):Bool:=gf S p.1&&gf S p.2
noncomputable def bX (m:List ((Int×Int)×Int)) (S:List Int) (l:List (Int×Int)):List ((Int×Int)×Int):=(l.filter (sC S)).map fun p=>((cM S p.1,cM S p.2),(b7 m p).getD 0)
theorem eM {m:List ((Int×Int)×Int)} {l:List (Int×Int)} (nd:l.Nodup):(keys (bX m S l)).Nodup:=by
 unfold bX
 rw [keys,cp,List.nodup_iff_pairwise_ne,List.pairwise_map]
 refine (List.nodup_iff_pairwise_ne.mp (nd.sublist fR)).imp_of_mem fun {a b} ha hb hne e=>hne ?_
 have h1:=(b8.mp ha).2;have h2:=(b8.mp hb).2
 unfold sC at h1 h2
 rw [bC] at h1 h2
 have e:(cM S a.1,cM S a.2)=(cM S b.1,cM S b.2):=e
 have e':=Prod.mk.inj e
 exact Prod.ext (kf (dG h1.1) (dG h2.1) e'.1) (kf (dG h1.2) (dG h2.2) e'.2)
theorem nt (m:List ((Int×Int)×Int)) (S:List Int) (l:List (Int×Int)):(bX m S l).length≤l.length:=by unfold bX;rw [ba];exact gH _ _
theorem nM (m:List ((Int×Int)×Int)) (S:List Int) (a b:List (Int×Int)):bX m S (a++b)=bX m S a++bX m S b:=by unfold bX;rw [List.filter_append,dK]
theorem su {m:List ((Int×Int)×Int)} {done l:List (Int×Int)} {p:Int×Int} {v:Int} (nd:(done++p::l).Nodup) (hv:b7 m p=some v) (hl:done.length < 60) (vf:Int→T) :
  (sC S p=true→j5 (D kP vf (bX m S done)) (.tup [.int (cM S p.1),.int (cM S p.2)]) (vf v)=some (D kP vf (bX m S (done++[p]))))∧(sC S p=false→bX m S (done++[p])=bX m S done):=by
 constructor
 ·intro q
  have e1:bX m S [p]=[((cM S p.1,cM S p.2),v)]:=by unfold bX;rw [List.filter_cons,au q];simp [hv]
  have hk:(cM S p.1,cM S p.2)∉keys (bX m S done):=fun c=>by
   have:=eM (m:=m) (S:=S) (l:=done++[p]) (nd.sublist (by simp))
   rw [nM,e1,keys,dK,cF] at this
   exact this.2.2 _ c _ (.head _) rfl
  have hs:=gj kP vf (m:=bX m S done) (eM (nd.sublist (List.sublist_append_left _ _))) (by have:=nt m S done;have:SZ=1048576:=rfl;lia) (cM S p.1,cM S p.2) v
  rw [jM _ hk,← e1,← nM] at hs
  exact hs
 ·intro q
  have e1:bX m S [p]=[]:=by unfold bX;rw [List.filter_cons,av (by rw [q];exact bO)];rfl
  rw [nM,e1,cj]
theorem yf (m:List ((Int×Int)×Int)) (nm:(keys m).Nodup) (hl:m.length≤4) (S:List Int) (nd:S.Nodup) (h:Q (D kP T.int (bX m S (bh (keys m)))) none):CN (n+2) 68 [D kP T.int m,DI (bJ S)] none Q:=by
 refine ao (fd:=q9) rfl rfl rfl (ag (ab (ko T.int nm hl) (And.intro rfl (ab rfl ?_))))
 have ncan:(bh (keys m)).Nodup:=(bH _).nodup_iff.mpr nm
 have lcan:(bh (keys m)).length≤4:=by rw [qi,bF];exact hl
 refine cv kP.t (fun s:List ((Int×Int)×Int)×Slot×Slot=>[(32,.val (D kP T.int m)),(72,.val (DI (bJ S))),(54,.own false (D kP T.int s.1)),(33,s.2.1),(10,s.2.2)])
  (fun l s=>∃ done,bh (keys m)=done++l∧s.1=bX m S done∧dQ s.2.2) ?_ ?_ (bh (keys m)) ([],.unb,.unb) ⟨[],rfl,rfl,trivial⟩
 ·rintro p l ⟨m',s7,s10⟩ ⟨done,e,em',nf⟩ K k
  dsimp only at em' nf
  subst em'
  obtain ⟨v,hv⟩:=cA (g7 (show p∈bh (keys m) by rw [e];simp))
  have st:=su (m:=m) (S:=S) (by rw [← e];exact ncan) hv (by have:=aw List.length e;rw [bS] at this;lia) T.int
  refine ag (lW S nd [p.1,p.2] (And.intro nf ?_))
  by_cases q:p.1∈S∧p.2∈S
  ·have q2:sC S p=true:=by unfold sC gf;simp [q.1,q.2]
   rw [au (by simp [q.1,q.2])]
   refine ag (ab (bE kP T.int hv) ?_)
   refine ag (ab (st.1 q2) ?_)
   exact k (bX m S (done++[p]),.val (kP.t p),.val (.tup ([p.1,p.2].map fun k=>.int (cM S k)))) ⟨done++[p],by rw [e];simp,rfl,trivial⟩
  ·have q2:sC S p=false:=by unfold sC gf;simpa using q
   rw [av (by simpa using q)]
   exact k (bX m S done,.val (kP.t p),.val .none) ⟨done++[p],by rw [e];simp,(st.2 q2).symm,trivial⟩
 ·rintro ⟨m',s7,s10⟩ ⟨done,e,em',nf⟩
  dsimp only at em' nf
  subst em'
  rw [cj] at e
  subst e
  exact h
theorem x4 (m:List ((Int×Int)×Int)) (nm:(keys m).Nodup) (hl:m.length≤4) (S:List Int) (nd:S.Nodup) (h:Q (ee (DA (bX m S (bh (keys m))))) none):CN (n+5) 46 [ee (DA m),DI (bJ S)] none Q:=by
 refine ao (fd:=qy) rfl rfl rfl (And.intro (show 3 < 14 by decide) (And.intro rfl ?_))
 refine ag (ab (ko fw nm hl) (And.intro rfl (ab rfl ?_)))
 have ncan:(bh (keys m)).Nodup:=(bH _).nodup_iff.mpr nm
 have lcan:(bh (keys m)).length≤4:=by rw [qi,bF];exact hl
 refine cv kP.t (fun s:List ((Int×Int)×Int)×Slot×Slot=>[(26,.val (ee (DA m))),(72,.val (DI (bJ S))),(73,.unb),(74,.unb),(11,.own false (DA s.1)),(13,s.2.1),(10,s.2.2)])
  (fun l s=>∃ done,bh (keys m)=done++l∧s.1=bX m S done∧dQ s.2.2) ?_ ?_ (bh (keys m)) ([],.unb,.unb) ⟨[],rfl,rfl,trivial⟩
 ·rintro p l ⟨m',s7,s10⟩ ⟨done,e,em',nf⟩ K k
  dsimp only at em' nf
  subst em'
  obtain ⟨v,hv⟩:=cA (g7 (show p∈bh (keys m) by rw [e];simp))
  have st:=su (m:=m) (S:=S) (by rw [← e];exact ncan) hv (by have:=aw List.length e;rw [bS] at this;lia) fw
  refine ag (lW S nd [p.1,p.2] (And.intro nf ?_))
  by_cases q:p.1∈S∧p.2∈S
  ·have q2:sC S p=true:=by unfold sC gf;simp [q.1,q.2]
   rw [au (by simp [q.1,q.2])]
   refine ab (bE kP fw hv) ?_
   refine ag (ab (st.1 q2) ?_)
   exact k (bX m S (done++[p]),.val (kP.t p),.val (.tup ([p.1,p.2].map fun k=>.int (cM S k)))) ⟨done++[p],by rw [e];simp,rfl,trivial⟩
  ·have q2:sC S p=false:=by unfold sC gf;simpa using q
   rw [av (by simpa using q)]
   exact k (bX m S done,.val (kP.t p),.val .none) ⟨done++[p],by rw [e];simp,(st.2 q2).symm,trivial⟩
 ·rintro ⟨m',s7,s10⟩ ⟨done,e,em',nf⟩
  dsimp only at em' nf
  subst em'
  rw [cj] at e
  subst e
  exact And.intro (by decide) (IN _ (And.intro rfl h))
end
end
section
noncomputable abbrev bj.cutT (S:List Int):bj→T
 | .sg m=>fG (DI (bN m S (canon (keys m))))
 | .lg l=>pi (DL (aQ (aT S (eV (aQ l) (canon (keys (aQ l)))))))
noncomputable def bj.idle (S:List Int):bj→Bool
 | .sg m=>(bN m S (canon (keys m))).isEmpty
 | .lg l=>(aQ (aT S (eV (aQ l) (canon (keys (aQ l)))))).isEmpty
section
variable {n:Nat} {Q:T→Option T→Prop}
theorem Gy (r:bj) (hr:r.ok) (S:List Int) (nd:S.Nodup) (h:Q (r.cutT S) none):CN (n+4) 49 [r.tab,.str r.kind,DI (bJ S)] none Q:=by
 induction r with
 | sg m=>
  refine ao (fd:=f9) rfl rfl rfl (ag ?_)
  refine ao (fd:=eu) rfl rfl rfl (ag ?_)
  exact uZ m hr.1 (by have:=hr.2.1;lia) S nd h
 | lg l=>
  refine ao (fd:=f9) rfl rfl rfl (ag ?_)
  refine ao (fd:=eu) rfl rfl rfl (ag ?_)
  have g:=jP (l:=l)
  have hl:l.length≤3:=hr.1
  exact CM (aQ l) ⟨g.nd,by have:=g.len;lia,fun p hp=>⟨(g.rows p hp).1,by have:=(g.rows p hp).2;lia⟩⟩ S nd h
theorem dM {β:Type} (f:α→β) (l:List α):decide (((l.map f).length:Int)=0)=l.isEmpty:=by induction l<;>simp;lia
theorem LL (r:bj) (S:List Int) (h:Q (.bool (r.idle S)) none):CN (n+1) 50 [r.cutT S,.str r.kind] none Q:=by
 induction r with
 | sg m=>
  have e:=dM (fun p:Int×Int=>(kI.f p.1,T.int p.2)) (bN m S (canon (keys m)))
  have h:Q (.bool (bN m S (canon (keys m))).isEmpty) none:=h
  rw [← e] at h
  exact ao (fd:=ka) rfl rfl rfl h
 | lg l=>
  have e:=dM (fun p:Int×List (Int×Int)=>(kI.f p.1,gE p.2)) (aQ (aT S (eV (aQ l) (canon (keys (aQ l))))))
  have h:Q (.bool (aQ (aT S (eV (aQ l) (canon (keys (aQ l)))))).isEmpty) none:=h
  rw [← e] at h
  exact ao (fd:=ka) rfl rfl rfl h
theorem Ea (m:List ((Int×Int)×Int)) (nm:(keys m).Nodup) (hl:m.length≤4) (S:List Int) (nd:S.Nodup) (h:Q (ee (DA (bX m S (bh (keys m))))) none):CN (n+7) 49 [ee (DA m),.str 33,DI (bJ S)] none Q:=by
 refine ao (fd:=f9) rfl rfl rfl (ag ?_)
 refine ao (fd:=jH) rfl rfl rfl (ag ?_)
 exact x4 m nm hl S nd h
theorem GC (m:List ((Int×Int)×Int)) (h:Q (.bool m.isEmpty) none):CN (n+1) 50 [ee (DA m),.str 33] none Q:=by
 have e:=dM (fun p:(Int×Int)×Int=>(kP.f p.1,fw p.2)) m
 rw [← e] at h
 exact ao (fd:=ka) rfl rfl rfl (And.intro (show 3 < 14 by decide) (And.intro rfl h))
theorem mz (k:Nat) (t t':T) (b:Bool) (S:List Int) (hr:∀ Q:T→Option T→Prop,Q t' none→CN n 49 [t,.str k,DI (bJ S)] none Q) (hi:∀ Q:T→Option T→Prop,Q (.bool b) none→CN n 50 [t',.str k] none Q)
  (h:Q (be k (.list (if b then [] else [t']))) none) (hk:∀ (tb:T) (Q:T→Option T→Prop),Q .none (some (be k tb))→CN n 14 [.str k,.int 0,.int 0,tb] (some (.inst 6 [])) Q):CN (n+1) 65 [be k (.list [t]),DI (bJ S)] none Q:=by
 refine ao (fd:=mr) rfl rfl rfl (dT (ag (hr _ ?_)))
 refine ag (cK (ag ?_))
 refine dT (ag (hi _ ?_))
 induction b with
 | true=>exact ag (cK (And.intro (by decide) (hk _ _ (And.intro rfl h))))
 | false=>exact ag (cK (And.intro (by decide) (hk _ _ (And.intro rfl h))))
end
end
section
noncomputable def aP (tb:α→List T) (ls:List α):List Int:=((List.range ls.length).filter fun i=>match ls[i]? with | some x=>!(tb x).isEmpty | none=>false).map Int.ofNat
theorem BC {tb:α→List T} {ls:List α} {k:Int} (h:k∈aP tb ls):0≤k∧∃ x,ls[k.toNat]? = some x:=by
 obtain ⟨i,hi,rfl⟩:=bo.mp h
 obtain ⟨h1,h2⟩:=b8.mp hi
 exact ⟨hE _,ls[i]'(List.mem_range.mp h1),cq _⟩
theorem xk (tb:α→List T) (ls:List α):(aP tb ls).Nodup:=by
 unfold aP
 rw [List.nodup_iff_pairwise_ne,List.pairwise_map]
 exact (List.nodup_iff_pairwise_ne.mp (List.nodup_range.sublist fR)).imp fun h e=>h (Int.ofNat.inj e)
theorem BH (tb:α→List T) (ls:List α):(aP tb ls).length≤ls.length:=by
 unfold aP
 rw [ba]
 exact aI (gH _ _) (by rw [eh];exact Nat.le_refl _)
section
variable {n:Nat} {Q:T→Option T→Prop}
theorem HC (k:Nat) (hk:k≠61∧k≠62) (tb ps:T) (h:Q (be k tb) none):CN (n+1) 66 [be k tb,ps] none Q:=by
 refine ao (fd:=jX) rfl rfl rfl (ff ?_ (ff ?_ h))
 ·show (!decide (k=61))=true
  rw [eK hk.1];rfl
 ·show (!decide (k=62))=true
  rw [eK hk.2];rfl
theorem iD {f:α→T} {ls:List α} {k:Int} {x:α} (h0:0≤k) (h:ls[k.toNat]? = some x):getItem (.list (ls.map f)) (.int k)=some (f x):=
 qG h0 (by rw [dL,h];rfl)
theorem mA (scr tag:T) (named:List Int) (ls:List α) (mk:α→T) (kd:α→Nat) (tb:α→List T) (S:List Int) (hkd:∀ x∈ls,kd x≠61∧kd x≠62) (hl:ls.length < 60)
  (hc:∀ x∈ls,∀ Q:T→Option T→Prop,Q (be (kd x) (.list (tb x))) none→CN (n+1) 65 [mk x,DI (bJ S)] none Q)
  (h:Q (bl scr tag ((named.filter (gf (aP tb ls))).map (cM (aP tb ls))) ((aP tb ls).map fun k=>match ls[k.toNat]? with | some x=>be (kd x) (.list (tb x)) | none=>.none)) none) :
  CN (n+2) 67 [bl scr tag named (ls.map mk),DI (bJ S)] none Q:=by
 refine ao (fd:=i3) rfl rfl rfl ?_
 refine bc mk (fun x=>be (kd x) (.list (tb x))) (fun s:Slot=>[(47,s),(55,.val (bl scr tag named (ls.map mk))),(72,.val (DI (bJ S))),(44,.unb),(93,.unb),(39,.unb),(46,.unb)]) (fun _=>trivial) ls (fun x hx s K k=>?_) .unb fun s=>?_
 ·exact ag (hc x hx _ (k _))
 have ln:=BH tb ls
 refine ag (ag ?_)
 refine ab (fj (d:=((ls.map fun x=>be (kd x) (.list (tb x))).length:Int)) (hE _) (by rw [ba];lia)) ?_
 refine bg ed (fun i=>match ls[i]? with | some x=>!(tb x).isEmpty | none=>false) ed (fun s:Slot=>[(56,s),(55,.val (bl scr tag named (ls.map mk))),(72,.val (DI (bJ S))),(44,.val (.list (ls.map fun x=>be (kd x) (.list (tb x))))),(93,.unb),(39,.unb),(46,.unb)]) (fun i=>.val (ed i)) (fun _=>trivial) (List.range (Int.toNat ((ls.map fun x=>be (kd x) (.list (tb x))).length:Int))) (fun i hi s K k=>?_) (fun i hi hp K k=>?_) .unb fun s=>?_
 ·have hlt:i < ls.length:=by have:=List.mem_range.mp hi;rw [ba] at this;simpa using this
  have e:ls[i]? = some ls[i]:=cq hlt
  rw [e] at k
  refine ag (ab (iD (hE i) (show ls[(Int.ofNat i).toNat]? = some ls[i] from e)) ?_)
  induction q:!(tb ls[i]).isEmpty with
  | true=>dsimp only at k;rw [q] at k;exact ff q k
  | false=>dsimp only at k;rw [q] at k;exact fJ q k
 ·exact k _
 ·have e:((List.range (Int.toNat ((ls.map fun x=>be (kd x) (.list (tb x))).length:Int))).filter fun i=>match ls[i]? with | some x=>!(tb x).isEmpty | none=>false).map ed=(aP tb ls).map T.int:=by
   unfold aP
   rw [cp,ba];rfl
  rw [e]
  refine tH (aP tb ls) (xk tb ls) (by lia) ?_
  refine ag (ag (And.intro rfl (ab rfl (re ?_))))
  refine ag ?_
  refine bg T.int (gf (aP tb ls)) (fun k=>.int (cM (aP tb ls) k)) (fun s:Slot=>[(56,s),(55,.val (bl scr tag named (ls.map mk))),(72,.val (DI (bJ S))),(44,.val (.list (ls.map fun x=>be (kd x) (.list (tb x))))),(93,.val (DI (bJ (aP tb ls)))),(39,.own false (.list [])),(46,.val (oq tag (.list (named.map .int))))]) (fun i=>.val (.int i)) (fun _=>trivial) named (fun k hk s K kk=>?_) (fun k hk hp K kk=>?_) .unb fun s=>?_
  ·refine ab (jJ kI T.int (bJ (aP tb ls)) k) ?_
   rw [c7]
   induction q:gf (aP tb ls) k with
   | true=>rw [q] at kk;exact ff q kk
   | false=>rw [q] at kk;exact fJ q kk
  ·exact ag (ab (bE kI T.int (dY (xk tb ls) (dG hp))) (kk _))
  ·refine And.intro (by decide) (tI tag _ (And.intro rfl ?_))
   refine uD ?_
   refine gv kI T.int ?_
   rw [gy]
   refine bc T.int (fun k=>match ls[k.toNat]? with | some x=>be (kd x) (.list (tb x)) | none=>.none) (fun s:Slot=>[(56,s),(55,.val (bl scr tag named (ls.map mk))),(72,.val (DI (bJ S))),(44,.val (.list (ls.map fun x=>be (kd x) (.list (tb x))))),(93,.val (DI (bJ (aP tb ls)))),(39,.val (.list [oq tag (.list ((named.filter (gf (aP tb ls))).map fun k=>.int (cM (aP tb ls) k)))])),(46,.val (oq tag (.list (named.map .int))))]) (fun _=>trivial) (aP tb ls) (fun k hk s K kk=>?_) .unb fun s=>?_
   ·obtain ⟨h0,x,hx⟩:=BC hk
    have hm:=List.mem_of_getElem? hx
    refine ag (ag (ab (iD h0 hx) ?_))
    refine HC (kd x) (hkd x hm) _ _ ?_
    have:=kk (.val (.int k))
    rw [hx] at this
    exact this
   ·have e2:((named.filter (gf (aP tb ls))).map (cM (aP tb ls))).map T.int=(named.filter (gf (aP tb ls))).map fun k=>T.int (cM (aP tb ls) k):=by rw [cp];rfl
    unfold bl at h
    rw [e2] at h
    exact And.intro (by decide) (wx _ _ _ (And.intro rfl h))
end
end
section
noncomputable abbrev jW:T:=.dict [(.S 103,Gu (.str 103) (Ac (.int (-1)) (.list [.int 0])) (.dict []))]
structure Fo where
 rows:List bj
 named:List Int
 codes:List (Int×Int)
 cls:List (Int×Int)
 kern:List ((Int×Int)×Int)
 pairs:List ((Int×Int)×Int)
 pos:Bool
structure Fo.ok (f:Fo):Prop where
 rl:f.rows.length≤4
 rows:∀ r∈f.rows,r.ok
 named:fB f.named f.rows.length
 nl:f.named.length≤4
 cn:(keys f.codes).Nodup
 cl:f.codes.length≤6
 cg:∀ p∈f.codes,gl p.2
 kn:(keys f.cls).Nodup
 kl:f.cls.length≤4
 ke:(keys f.kern).Nodup
 kel:f.kern.length≤4
 pn:(keys f.pairs).Nodup
 pl:f.pairs.length≤4
noncomputable abbrev Fo.cm (f:Fo):List (Int×Int):=f.codes.filter fun p=>p.2 != 0
noncomputable abbrev Fo.R (f:Fo):List bj:=f.named.map fun k=>f.rows.getD k.toNat (.sg [])
noncomputable abbrev Fo.gsub (f:Fo):T:=if f.rows.isEmpty then .none else bl jW (.str 114) f.named (f.rows.map bj.look)
noncomputable abbrev Fo.gpos (f:Fo):T:=if f.pos then bl jW (.str 32) [0] [be 33 (.list [ee (DA f.pairs)])] else .none
noncomputable abbrev Ji (c:T):T:=uu c (kC (DI [])) (.list []) (.dict []) (.dict [])
noncomputable abbrev Fo.t (f:Fo):T:=qY (je (DI f.cm)) yr (Ji (kC (DI f.cls))) f.gsub f.gpos (D kP T.int f.kern)
noncomputable def Ge (f:Fo) (cs gs:List Int):Prop:=∀ x,x∈gs↔x=0∨∃ w∈(32::cs),x=fT f.cm w
structure zA (cs:List Int):Prop where
 nd:(32::cs).Nodup
 ok:∀ c∈cs,B4 c=false
 len:cs.length < 50
structure Nb (f:Fo) (cs S:List Int):Prop where
 one:∀ gs S',Ge f cs gs→fV gs f.R S'→S'=S
 ex:∃ gs,Ge f cs gs∧fV gs f.R S
section
variable {n:Nat} {Q:T→Option T→Prop}
theorem Fo.gs_of (f:Fo) (h:f.ok):(f.gsub=.none∧f.R=[])∨∃ (scr tag:T) (named:List Int) (rows:List bj),f.gsub=bl scr tag named (rows.map bj.look)∧(∀ r∈rows,r.ok)∧fB named rows.length∧named.length < 60∧f.R=named.map fun k=>rows.getD k.toNat (.sg []):=by
 by_cases e:f.rows.isEmpty=true
 ·left
  refine ⟨au e,?_⟩
  have hn:f.named=[]:=by
   induction q:f.named with
   | nil=>rfl
   | cons a l=>
    have:=h.named.in_ a (by rw [q];simp)
    rw [List.isEmpty_iff.mp e] at this
    simp at this;lia
  unfold Fo.R;rw [hn];rfl
 ·right
  exact ⟨jW,.str 114,f.named,f.rows,av e,h.rows,h.named,by have:=h.nl;lia,rfl⟩
theorem Js {f:Fo} (h:f.ok):∀ p∈f.cm,gl p.2:=fun p hp=>h.cg p (b8.mp hp).1
theorem DP (f:Fo) (h:f.ok) (cs:List Int) (hc:zA cs) (hS:Nb f cs S) (k:Q (.list (S.map .int)) none):CN (n+7) 69 [f.t,.list (cs.map .int)] none Q:=by
 refine ao (fd:=kO) rfl rfl rfl (ag (ag (ag ?_)))
 refine xW cs hc.nd hc.ok hc.len ?_
 refine GY f.cm (Js h) (32::cs) fun gs g1 g2 g3=>?_
 refine Bf gs (ec g1) g2 f.R (f.gs_of h) fun S' hk=>?_
 rw [hS.one gs S' g3 hk]
 exact k
noncomputable def ch (S:List Int) (r:bj):List T:=if r.idle S then [] else [r.cutT S]
noncomputable def ol (ls:List α) (kd:α→Nat) (tb:α→List T) (k:Int):T:=match ls[k.toNat]? with | some x=>be (kd x) (.list (tb x)) | none=>.none
noncomputable abbrev Fo.gsub' (f:Fo) (S:List Int):T:=if f.rows.isEmpty then .none else
 bl jW (.str 114) ((f.named.filter (gf (aP (ch S) f.rows))).map (cM (aP (ch S) f.rows))) ((aP (ch S) f.rows).map (ol f.rows bj.kind (ch S)))
noncomputable abbrev Fo.kp (f:Fo) (S:List Int):List ((Int×Int)×Int):=bX f.pairs S (bh (keys f.pairs))
noncomputable def jN (f:Fo) (S:List Int) (_:Unit):List T:=if (f.kp S).isEmpty then [] else [ee (DA (f.kp S))]
noncomputable abbrev Fo.gpos' (f:Fo) (S:List Int):T:=if f.pos then
 bl jW (.str 32) ((([0]:List Int).filter (gf (aP (jN f S) [()]))).map (cM (aP (jN f S) [()]))) ((aP (jN f S) [()]).map (ol [()] (fun _=>33) (jN f S))) else .none
noncomputable abbrev Fo.cut (f:Fo) (cs S:List Int):T:=qY (je (DI (dB f.cm S (32::cs)))) (yH (.int 1000) (.int 700) (.int (-200)) (.tup (Hu S)) (.tup (S.map .int)))
 (Ji (kC (DI (f8 f.cls S (canon (keys f.cls)))))) (f.gsub' S) (f.gpos' S) (D kP T.int (bX f.kern S (bh (keys f.kern))))
theorem lm (S:T) (k:Q .none none):CN (n+1) 67 [.none,S] none Q:=ao (fd:=i3) rfl rfl rfl k
theorem FZ (f:Fo) (h:f.ok) (cs:List Int) (hc:zA cs) (hS:Nb f cs S) (k:Q (f.cut cs S) none):CN (n+10) 70 [f.t,.list (cs.map .int)] none Q:=by
 obtain ⟨gs,hb,hk⟩:=hS.ex
 have nd:=hk.nd
 have zero:(0:Int)∈S:=hk.lfp.sub 0 ((hb 0).mpr (.inl rfl))
 have h0:∀ g∈S,g≠0→cM S g≠0:=fun g hg hne e=>by
  induction q:S with
  | nil=>rw [q] at hg;cases hg
  | cons a l=>
   have ha:cM S a=0:=by rw [q];simp [cM]
   have:g=a:=kf hg (by rw [q];simp) (e.trans ha.symm)
   subst this
   have hz:(0:Int)∈g::l:=by rw [← q];exact zero
   rcases aU.mp hz with hz | hz
   ·exact hne hz.symm
   ·have h1:=hk.inc
    rw [q] at h1
    have h2:=(List.pairwise_cons.mp h1).1 0 hz
    have:=(hk.gl g hg).1
    lia
 have hgs:∀ Q:T→Option T→Prop,Q (f.gsub' S) none→CN (n+9) 67 [f.gsub,DI (bJ S)] none Q:=by
  intro Q k
  induction e:f.rows.isEmpty with
  | true=>
   unfold Fo.gsub' at k;unfold Fo.gsub
   rw [au e] at k ⊢;exact lm _ k
  | false=>
   unfold Fo.gsub' at k;unfold Fo.gsub
   rw [av (by rw [e];exact bO)] at k ⊢
   refine mA jW (.str 114) f.named f.rows bj.look bj.kind (ch S) S (fun r _=>match r with | .sg _=>⟨show 16≠61 by decide,show 16≠62 by decide⟩ | .lg _=>⟨show 57≠61 by decide,show 57≠62 by decide⟩) (by have:=h.rl;lia) (fun r hr Q k=>?_) k
   rw [bj.look_eq]
   refine mz r.kind r.tab (r.cutT S) (r.idle S) S (fun Q k=>Gy r (h.rows r hr) S nd k) (fun Q k=>LL r S k) k (fun tb Q k=>ir _ _ k)
 have hgp:∀ Q:T→Option T→Prop,Q (f.gpos' S) none→CN (n+9) 67 [f.gpos,DI (bJ S)] none Q:=by
  intro Q k
  induction e:f.pos with
  | false=>
   unfold Fo.gpos' at k;unfold Fo.gpos
   rw [av (by rw [e];exact bO)] at k ⊢;exact lm _ k
  | true=>
   unfold Fo.gpos' at k;unfold Fo.gpos
   rw [au e] at k ⊢
   refine mA jW (.str 32) [0] [()] (fun _=>be 33 (.list [ee (DA f.pairs)])) (fun _=>33) (jN f S) S (fun r _=>⟨by decide,by decide⟩) (by decide) (fun r hr Q k=>?_) k
   refine mz 33 (ee (DA f.pairs)) (ee (DA (f.kp S))) (f.kp S).isEmpty S (fun Q k=>Ea f.pairs h.pn h.pl S nd k) (fun Q k=>GC (f.kp S) k) k (fun tb Q k=>ir _ _ k)
 refine ao (fd:=wz) rfl rfl rfl (ag (xW cs hc.nd hc.ok hc.len ?_))
 refine ag (ag (DP f h cs hc hS ?_))
 refine ag (ag (tH S nd (by have:=hk.len;lia) ?_))
 refine ag (ag (tD f.cm S (32::cs) nd hc.nd (by rw [eH];have:=hc.len;lia) (fun w hw=>hk.lfp.sub _ ((hb _).mpr (.inr ⟨w,hw,rfl⟩))) h0 ?_))
 refine ag (ag (zm f.cls h.kn (by have:=h.kl;lia) S nd ?_))
 refine ag ?_
 refine dT (ag (hgs _ ?_))
 refine ag (dT (ag (hgp _ ?_)))
 refine ag (cK (ag ?_))
 refine ag (sJ S hk.gl ?_)
 refine ag (ag (ag ?_))
 refine yf f.kern h.ke h.kel S nd ?_
 exact And.intro (by decide) (DZ _ _ _ _ _ _ (And.intro rfl k))
end
end
section
noncomputable def bj.left (S:List Int):bj→bj
 | .sg m=>.sg (bN m S (keys m))
 | .lg l=>.lg (aT S l)
noncomputable def bj.bare:bj→Bool
 | .sg m=>m.isEmpty
 | .lg l=>l.isEmpty
theorem tf (S:List Int) (p:Int×Int×Int):((([p.1,p.2.1,p.2.2].filter fun g=>!gf S g).map T.int).isEmpty)=v9 S p:=by
 unfold v9
 cases h1:gf S p.1<;>cases h2:gf S p.2.1<;>cases h3:gf S p.2.2<;>simp [h1,h2,h3]
section
variable {n:Nat} {Q:T→Option T→Prop}
theorem ML (r:bj) (hr:r.ok) (S:List Int) (nd:S.Nodup) (h:Q (r.left S).t none):CN (n+1) 76 [r.t,DI (bJ S)] none Q:=by
 induction r with
 | sg m=>
  obtain ⟨nm,hl,_⟩:=hr
  refine ao (fd:=lM) rfl rfl rfl (ag (ag ?_))
  refine gv kI T.int ?_
  refine bg T.int (fun g=>gf S g&&gf S (CX m g)) (fun g=>T.tup [.int (cM S g),.int (cM S (CX m g))]) (fun s:Slot=>[(7,s),(10,.val (bj.sg m).t),(93,.val (DI (bJ S))),(92,.unb)]) (fun g=>.val (.int g)) (fun _=>trivial) (keys m) (fun g hg s K k=>?_) (fun g hg hp K k=>?_) .unb fun s=>?_
  ·obtain ⟨v,hv⟩:=cA hg
   have hvo:CX m g=v:=by unfold CX;rw [hv];rfl
   rw [hvo] at k
   refine ab (jJ kI T.int (bJ S) g) ?_
   rw [c7]
   induction q:gf S g with
   | false=>rw [q] at k;exact fJ q k
   | true=>
    rw [q] at k
    refine ff q (ag (ab (bE kI T.int hv) ?_))
    refine ab (jJ kI T.int (bJ S) v) ?_
    rw [c7]
    induction q2:gf S v with
    | false=>rw [q2] at k;exact fJ q2 k
    | true=>rw [q2] at k;exact ff q2 k
  ·obtain ⟨v,hv⟩:=cA hg
   have hvo:CX m g=v:=by unfold CX;rw [hv];rfl
   rw [bC] at hp
   rw [hvo] at hp k
   refine ag (ab (bE kI T.int (dY nd (dG hp.1))) ?_)
   refine ag (ag (ab (bE kI T.int hv) ?_))
   exact ab (bE kI T.int (dY nd (dG hp.2))) (k _)
  ·have e:((keys m).filter fun g=>gf S g&&gf S (CX m g)).map (fun g=>T.tup [.int (cM S g),.int (cM S (CX m g))])=(bN m S (keys m)).map fun p=>T.tup [kI.t p.1,T.int p.2]:=by
    unfold bN;rw [cp];rfl
   rw [e]
   refine ab (i4 kI T.int (bN m S (keys m)) (by have:=iW m S (keys m);rw [bF] at this;have:SZ=1048576:=rfl;lia)) ?_
   rw [iE (gw nm)]
   exact h
 | lg l=>
  refine ao (fd:=lM) rfl rfl rfl (ag (ag ?_))
  refine bg jg (v9 S) jg (fun s:Slot=>[(109,s),(10,.val (bj.lg l).t),(93,.val (DI (bJ S))),(92,.unb)]) (fun p=>.val (jg p)) (fun _=>trivial) l (fun p hp s K k=>?_) (fun p hp _ K k=>?_) .unb fun s=>?_
  ·refine bg T.int (fun g=>!gf S g) T.int (fun s:Slot=>[(7,s),(109,.val (jg p)),(10,.val (bj.lg l).t),(93,.val (DI (bJ S))),(92,.unb)]) (fun g=>.val (.int g)) (fun _=>trivial) [p.1,p.2.1,p.2.2] (fun g hg s K2 k2=>?_) (fun g hg hp K2 k2=>?_) .unb fun s=>?_
   ·refine ab (qw kI T.int (bJ S) g) ?_
    rw [c7]
    induction q:gf S g with
    | false=>rw [q] at k2;exact ff (by rw [show decide (g∈S)=false from q];rfl) k2
    | true=>rw [q] at k2;exact fJ (by rw [show decide (g∈S)=true from q];rfl) k2
   ·exact k2 _
   ·refine ab (Ff (d:=0) (PL.ints _) (by decide)) ?_
    rw [tf]
    induction q:v9 S p with
    | false=>rw [q] at k;exact k
    | true=>rw [q] at k;exact k
  ·exact k _
  ·refine ag ?_
   refine bc jg (fun p=>jg (JC S p)) (fun s:Slot=>[(109,s),(10,.val (bj.lg l).t),(93,.val (DI (bJ S))),(92,.val (.list ((l.filter (v9 S)).map jg)))]) (fun _=>trivial) (l.filter (v9 S)) (fun p hp s K k=>?_) .unb fun s=>?_
   ·have h3:=(b8.mp hp).2
    unfold v9 at h3
    rw [bC,bC] at h3
    refine bc T.int (fun g=>T.int (cM S g)) (fun s:Slot=>[(7,s),(109,.val (jg p)),(10,.val (bj.lg l).t),(93,.val (DI (bJ S))),(92,.val (.list ((l.filter (v9 S)).map jg)))]) (fun _=>trivial) [p.1,p.2.1,p.2.2] (fun g hg s K2 k2=>?_) .unb fun s=>?_
    ·have hin:g∈S:=by
      simp only [aU,List.not_mem_nil,or_false] at hg
      rcases hg with rfl | rfl | rfl
      ·exact dG h3.1
      ·exact dG h3.2.1
      ·exact dG h3.2.2
     exact ag (ab (bE kI T.int (dY nd hin)) (k2 _))
    ·exact k _
   ·have e:(l.filter (v9 S)).map (fun p=>jg (JC S p))=(aT S l).map jg:=by unfold aT;rw [cp];rfl
    rw [e];exact h
end
end
section
theorem oI (m:List (Int×Int)) (S:List Int) (h:a.Perm b):(bN m S a).Perm (bN m S b):=(h.filter _).map _
theorem rJ (h:∀ x,x∈a↔x∈b):canon a=canon b:=bV (aJ _) (aJ _) fun x=>by rw [aN,aN];exact h x
theorem zl {a b:List (Int×Int)} (h:a.Perm b) (nd:(keys a).Nodup):i6 T.int a=i6 T.int b:=by
 unfold i6
 rw [rJ (b:=keys b) fun x=>(h.map Prod.fst).mem_iff]
 refine iv fun k _=>?_
 unfold tt
 rw [mS h nd]
theorem yA {a b:List (Int×List (Int×Int))} (hk:∀ x,x∈keys a↔x∈keys b) (h:∀ k,(b7 a k).getD []=(b7 b k).getD []):oE a=oE b:=by
 unfold oE
 rw [rJ hk]
 refine iv fun k _=>?_
 unfold hZ
 rw [h]
theorem AC (l:List (Int×Int×Int)) (g:Int):∀ {ks:List Int},ks.Nodup→(eV (aQ l) ks).filter (fun p=>decide (p.1=g))=if g∈ks then l.filter (fun p=>decide (p.1=g)) else []
 | [],_=>rfl
 | f::ks,nd=>by
  obtain ⟨h1,h2⟩:=cO.mp nd
  unfold eV
  rw [List.flatMap_cons,List.filter_append]
  have ih:=AC l g h2
  unfold eV at ih
  rw [ih]
  have e:iZ (aQ l) f=l.filter fun p=>decide (p.1=f):=by
   unfold iZ
   rw [fO,cp]
   refine (iv fun p hp=>?_).trans (List.map_id _)
   show (f,p.2)=p
   rw [← bI (b8.mp hp).2]
  rw [e,List.filter_filter]
  by_cases h:f=g
  ·subst h
   rw [av h1,au (by simp),cj]
   simp
  ·have e2:(l.filter fun p=>decide (p.1=g)&&decide (p.1=f))=[]:=List.filter_eq_nil_iff.mpr fun p _ c=>by
    rw [bC] at c
    exact h ((bI c.2).symm.trans (bI c.1))
   rw [e2,List.nil_append]
   by_cases q:g∈ks
   ·rw [au q,au (by simp [q])]
   ·rw [av q,av (by simp [q,Ne.symm h])]
theorem r5 (S:List Int) (X:List (Int×Int×Int)) {g:Int} (hg:g∈S):(aT S X).filter (fun p=>decide (p.1=cM S g))=((X.filter fun p=>decide (p.1=g)).filter (v9 S)).map (JC S):=by
 unfold aT
 rw [List.filter_map,List.filter_filter,List.filter_filter]
 congr 1
 refine List.filter_congr fun p _=>?_
 show (decide (cM S p.1=cM S g)&&v9 S p)=(v9 S p&&decide (p.1=g))
 induction q:v9 S p with
 | false=>simp
 | true=>
  have hp:p.1∈S:=by unfold v9 at q;rw [bC] at q;exact dG q.1
  rw [Bool.and_true,Bool.true_and]
  by_cases e:p.1=g
  ·rw [e,br rfl,br rfl]
  ·rw [eK e,eK fun c=>e (kf hp hg c)]
theorem xb {X:List (Int×Int×Int)} {p:Int×Int×Int} (h:p∈aT S X):∃ g∈S,p.1=cM S g:=by
 obtain ⟨q,hq,rfl⟩:=bo.mp h
 have:=(b8.mp hq).2
 unfold v9 at this
 rw [bC] at this
 exact ⟨q.1,dG this.1,rfl⟩
theorem lQ (l:List (Int×Int×Int)) (S:List Int) (k:Int):(aT S (eV (aQ l) (canon (keys (aQ l))))).filter (fun p=>decide (p.1=k))=(aT S l).filter (fun p=>decide (p.1=k)):=by
 by_cases h:∃ g∈S,k=cM S g
 ·obtain ⟨g,hg,rfl⟩:=h
  rw [r5 S _ hg,r5 S _ hg,AC l g (ec (aJ _))]
  by_cases q:g∈canon (keys (aQ l))
  ·rw [au q]
  ·rw [av q]
   have e:(l.filter fun p=>decide (p.1=g))=[]:=List.filter_eq_nil_iff.mpr fun p hp c=>q (aN.mpr ((iT l g).mpr ⟨p,hp,bI c⟩))
   rw [e]
 ·have e:∀ X,(aT S X).filter (fun p=>decide (p.1=k))=[]:=fun X=>List.filter_eq_nil_iff.mpr fun p hp c=>by
   obtain ⟨g,hg,e⟩:=xb hp
   exact h ⟨g,hg,by rw [← e];exact (bI c).symm⟩
  rw [e,e]
theorem gc {X Y:List (Int×Int×Int)} (h:∀ k,X.filter (fun p=>decide (p.1=k))=Y.filter (fun p=>decide (p.1=k))) (p:Int×Int×Int) (hp:p∈X):p∈Y:=by
 have:p∈X.filter (fun q=>decide (q.1=p.1)):=b8.mpr ⟨hp,br rfl⟩
 rw [h] at this
 exact (b8.mp this).1
theorem EO (l:List (Int×Int×Int)) (S:List Int):oE (aQ (aT S (eV (aQ l) (canon (keys (aQ l))))))=oE (aQ (aT S l)):=by
 have hf:=lQ l S
 refine yA (fun x=>?_) fun k=>?_
 ·rw [iT,iT]
  exact ⟨fun ⟨p,hp,e⟩=>⟨p,gc hf p hp,e⟩,fun ⟨p,hp,e⟩=>⟨p,gc (fun k=>(hf k).symm) p hp,e⟩⟩
 ·rw [fO,fO,hf]
theorem wZ (l:List (Int×Int×Int)):(aQ l).isEmpty=l.isEmpty:=by
 induction l with
 | nil=>rfl
 | cons p l=>
  have hk:p.1∈keys (aQ (p::l)):=(iT _ _).mpr ⟨p,.head _,rfl⟩
  induction e:aQ (p::l) with
  | nil=>rw [e] at hk;exact nomatch hk
  | cons a b=>rfl
theorem mT {a b:List α} (h:a.Perm b):a.isEmpty=b.isEmpty:=by
 induction a with
 | nil=>rw [List.nil_perm.mp h]
 | cons x a=>
  induction b with
  | nil=>exact absurd h.length_eq (by simp)
  | cons y b=>rfl
theorem CQ (r:bj) (hr:r.ok) (S:List Int):r.idle S=(r.left S).bare:=by
 induction r with
 | sg m=>exact mT (oI m S (gU hr.1))
 | lg l=>
  show (aQ (aT S (eV (aQ l) (canon (keys (aQ l)))))).isEmpty=(aT S l).isEmpty
  rw [wZ]
  have hf:=lQ l S
  induction e:aT S (eV (aQ l) (canon (keys (aQ l)))) with
  | nil=>
   induction e2:aT S l with
   | nil=>rfl
   | cons a b=>
    have:=gc (fun k=>(hf k).symm) a (by rw [e2];exact .head _)
    rw [e] at this;exact nomatch this
  | cons a b=>
   induction e2:aT S l with
   | nil=>
    have:=gc hf a (by rw [e];exact .head _)
    rw [e2] at this;exact nomatch this
   | cons _ _=>rfl
noncomputable def bj.told:bj→T
 | .sg m=>.tup [.str 16,.int 0,.int (-1),.tup [.tup (.str 16::i6 T.int m)]]
 | .lg l=>.tup [.str 57,.int 0,.int (-1),.tup [.tup (oE (aQ l))]]
theorem uh {r:bj} (hr:match r with | .sg m=>(keys m).Nodup∧m.length < 60 | .lg l=>l.length≤4):dX (n+4) r.look r.told:=by
 induction r with
 | sg m=>exact fL 16 (oB m hr.1 hr.2)
 | lg l=>
  have g:=jP (l:=l)
  have hr:l.length≤4:=hr
  exact fL 57 (wX (aQ l) g.nd (by have:=g.len;lia) fun p hp=>⟨(g.rows p hp).1,aI (g.rows p hp).2 hr⟩)
theorem FF (r:bj) (hr:r.ok) (S:List Int):dX (n+4) (be r.kind (.list [r.cutT S])) (r.left S).told:=by
 induction r with
 | sg m=>
  obtain ⟨nm,hl,_⟩:=hr
  have hn:=ec (aJ (keys m))
  have hlen:(bN m S (canon (keys m))).length < 60:=by have:=iW m S (canon (keys m));have:=bK (keys m);rw [bF] at this;lia
  have:=fL (n:=n+3) 16 (oB (n:=n+2) (bN m S (canon (keys m))) (gw hn) hlen)
  rw [zl (oI m S (gU nm)) (gw hn)] at this
  exact this
 | lg l=>
  have hl:l.length≤3:=hr.1
  have g0:=jP (l:=l)
  have g:=jP (l:=aT S (eV (aQ l) (canon (keys (aQ l)))))
  have hk:∀ k,((b7 (aQ (aT S (eV (aQ l) (canon (keys (aQ l)))))) k).getD []).length≤3:=fun k=>by
   rw [fO,lQ,ba]
   exact aI (gH _ _) (aI (hV S l) hl)
  have htr:∀ ks:List Int,(eV (aQ l) ks).length≤3*ks.length:=fun ks=>by
   induction ks with
   | nil=>exact Nat.le_refl _
   | cons f ks ih=>
    unfold eV at ih ⊢
    rw [List.flatMap_cons,bS,eH]
    have:(iZ (aQ l) f).length≤3:=by
     unfold iZ;rw [fO,ba,ba];exact aI (gH _ _) hl
    lia
  have:=fL (n:=n+3) 57 (wX (n:=n) (aQ (aT S (eV (aQ l) (canon (keys (aQ l)))))) g.nd (by
   have h1:=g.len
   have h2:=hV S (eV (aQ l) (canon (keys (aQ l))))
   have h3:=htr (canon (keys (aQ l)))
   have h4:=bK (keys (aQ l))
   rw [bF] at h4
   have h5:=g0.len
   lia) fun p hp=>⟨(g.rows p hp).1,by
    have h1:=hk p.1
    rw [dw g.nd (show (p.1,p.2)∈_ from hp)] at h1
    have h1:p.2.length≤3:=h1
    lia⟩)
  rw [EO] at this
  exact this
end
section
noncomputable abbrev bj.body:bj→T | .sg m=>DI m | .lg l=>.list (l.map jg)
theorem IC (r:bj):getItem r.t (.int 1)=some r.body:=by induction r<;>rfl
theorem zr (r:bj):rT r.body=some (!r.bare):=by
 induction r with
 | sg m=>exact ES kI T.int m
 | lg l=>show some (!(l.map jg).isEmpty)=_;induction l<;>rfl
theorem Hy (l:List Int) (k:Int):kD .In (.int k) (.list (l.map T.int))=some (l.contains k):=by
 show (c6 (l.map T.int)).map (fun l=>l.contains k)=_
 rw [hM];rfl
theorem wg {l:List Int} {k:Int} (h:k∈l):OF .index (.list (l.map T.int)) [.int k]=some (.int (l.idxOf k:Int)):=by
 show ((c6 (l.map T.int)).bind fun l=>if l.contains k then some (T.int (l.idxOf k)) else none)=_
 rw [hM,fN,au (fK.mpr h)]
theorem A8 (r:bj) (hr:r.ok) (S:List Int):(!(ch S r).isEmpty)=!(r.left S).bare:=by
 unfold ch
 rw [CQ r hr S]
 cases (r.left S).bare<;>rfl
theorem yD [DecidableEq κ] (K:KE κ) (hK:∀ k,PL 1 (K.t k)) (m:List (κ×Int)) (k:κ):PL 2 (tt K T.int m k):=by
 refine .tup 1 _ fun x hx=>?_
 rcases aU.mp hx with rfl | hx
 ·exact hK k
 ·rw [aV.mp hx]
  induction b7 m k with
  | none=>exact .none 1
  | some v=>exact .int 1 v
theorem Da {a b:T} {d:Nat} (h1:PL d a) (h2:PL d b):PL (d+1) (.tup [a,b]):=.tup d _ fun x hx=>by
 rcases aU.mp hx with rfl | hx
 ·exact h1
 ·rw [aV.mp hx];exact h2
theorem zJ (r:bj):PL 8 r.told:=by
 have four:∀ {a b c e:T},PL 7 a→PL 7 b→PL 7 c→PL 7 e→PL 8 (.tup [a,b,c,e]):=fun ha hb hc he=>.tup 7 _ fun x hx=>by
  simp only [aU,List.not_mem_nil,or_false] at hx
  rcases hx with rfl | rfl | rfl | rfl
  ·exact ha
  ·exact hb
  ·exact hc
  ·exact he
 induction r with
 | sg m=>
  refine four (.str 7 _) (.int 7 _) (.int 7 _) (.tup 6 _ fun x hx=>?_)
  rw [aV.mp hx]
  refine .tup 5 _ fun y hy=>?_
  rcases aU.mp hy with rfl | hy
  ·exact .str 5 _
  ·obtain ⟨k,_,rfl⟩:=bo.mp hy
   exact (yD kI (fun k=>.int 1 k) m k).up (by decide)
 | lg l=>
  refine four (.str 7 _) (.int 7 _) (.int 7 _) (.tup 6 _ fun x hx=>?_)
  rw [aV.mp hx]
  refine .tup 5 _ fun y hy=>?_
  obtain ⟨k,_,rfl⟩:=bo.mp hy
  refine Da (.int 4 _) (.tup 3 _ fun z hz=>?_)
  obtain ⟨p,_,rfl⟩:=bo.mp hz
  exact Da (.tup 1 _ fun w hw=>by rw [aV.mp hw];exact .int 1 _) (.int 2 _)
section
variable {n:Nat} {Q:T→Option T→Prop}
noncomputable abbrev fc (rows:List bj) (k:Int):bj:=rows.getD k.toNat (.sg [])
theorem vN (rows:List bj) (hr:∀ r∈rows,r.ok) (hl:rows.length≤4) (named:List Int) (S:List Int) (nd:S.Nodup) (h:Q (.bool true) none) :
  CN (n+5) 77 [bl jW (.str 114) ((named.filter (gf (aP (ch S) rows))).map (cM (aP (ch S) rows))) ((aP (ch S) rows).map (ol rows bj.kind (ch S))),.list (rows.map bj.t),.list (named.map .int),DI (bJ S)] none Q:=by
 have lv:∀ k∈aP (ch S) rows,0≤k∧fc rows k∈rows∧rows[k.toNat]? = some (fc rows k)∧(ch S (fc rows k)).isEmpty=false:=fun k hk=>by
  obtain ⟨i,hi,rfl⟩:=bo.mp hk
  obtain ⟨h1,h2⟩:=b8.mp hi
  have hlt:=List.mem_range.mp h1
  have e:rows[i]? = some rows[i]:=cq hlt
  have e2:fc rows (Int.ofNat i)=rows[i]'(List.mem_range.mp h1):=by
   show rows.getD i (.sg [])=_
   rw [hQ,e];rfl
  rw [e2]
  refine ⟨hE _,List.getElem_mem _,e,?_⟩
  rw [e] at h2
  simpa using h2
 generalize hcut:bl jW (.str 114) ((named.filter (gf (aP (ch S) rows))).map (cM (aP (ch S) rows))) ((aP (ch S) rows).map (ol rows bj.kind (ch S)))=cut
 refine ao (fd:=iB) rfl rfl rfl ?_
 refine bc bj.t (fun r=>(r.left S).t) (fun s:Slot=>[(10,s),(113,.val cut),(4,.val (.list (rows.map bj.t))),(104,.val (.list (named.map .int))),(93,.val (DI (bJ S))),(110,.unb),(111,.unb),(112,.unb)]) (fun _=>trivial) rows (fun r hm s K k=>?_) .unb fun s=>?_
 ·exact ag (ML r (hr r hm) S nd (k _))
 refine ag ?_
 refine ab (fj (d:=((rows.map bj.t).length:Int)) (hE _) (by rw [ba];lia)) ?_
 refine bg (ok:=fun _=>True) ed (fun i=>match rows[i]? with | some x=>!(ch S x).isEmpty | none=>false) ed (fun s:Slot=>[(56,s),(113,.val cut),(4,.val (.list (rows.map bj.t))),(104,.val (.list (named.map .int))),(93,.val (DI (bJ S))),(110,.val (.list (rows.map fun r=>(r.left S).t))),(111,.unb),(112,.unb)]) (fun i=>.val (ed i)) (fun _=>trivial) (List.range (Int.toNat ((rows.map bj.t).length:Int))) (fun i hi s K k=>?_) (fun i hi hp K k=>?_) .unb fun s=>?_
 ·have hlt:i < rows.length:=by have:=List.mem_range.mp hi;rw [ba] at this;simpa using this
  have e:rows[i]? = some rows[i]:=cq hlt
  rw [e] at k
  dsimp only at k
  rw [A8 _ (hr _ (List.getElem_mem hlt)) S] at k
  refine ag (ab (iD (f:=fun r:bj=>(r.left S).t) (hE i) (show rows[(Int.ofNat i).toNat]? = some rows[i] from e)) ?_)
  refine ab (IC _) (ab (zr _) ?_)
  induction q:!(rows[i].left S).bare with
  | true=>rw [q] at k;exact ff rfl k
  | false=>rw [q] at k;exact fJ rfl k
 ·exact k _
 have e:((List.range (Int.toNat ((rows.map bj.t).length:Int))).filter fun i=>match rows[i]? with | some x=>!(ch S x).isEmpty | none=>false).map ed=(aP (ch S) rows).map T.int:=by
  unfold aP
  rw [cp,ba,Int.toNat_natCast]
  refine aw _ (List.filter_congr fun i _=>?_)
  cases rows[i]?<;>rfl
 rw [e]
 refine ag ?_
 refine bc (ok:=fun _=>True) T.int (fun k=>((fc rows k).left S).told) (fun s:Slot=>[(56,s),(113,.val cut),(4,.val (.list (rows.map bj.t))),(104,.val (.list (named.map .int))),(93,.val (DI (bJ S))),(110,.val (.list (rows.map fun r=>(r.left S).t))),(111,.val (.list ((aP (ch S) rows).map .int))),(112,.unb)]) (fun _=>trivial) (aP (ch S) rows) (fun k hk s K kk=>?_) .unb fun s=>?_
 ·obtain ⟨h0,hm,hx,_⟩:=lv k hk
  have ro:=hr _ hm
  refine ag (ag (ab (iD (f:=fun r:bj=>(r.left S).t) h0 hx) ?_))
  have hleft:(match (fc rows k).left S with | .sg m=>m.length≤8 | .lg l=>l.length < 100)∧(match (fc rows k).left S with | .sg m=>(keys m).Nodup∧m.length < 60 | .lg l=>l.length≤4):=by
   induction q:fc rows k with
   | sg m=>
    rw [q] at ro
    have:=iW m S (keys m)
    rw [bF] at this
    have h2:=ro.2.1
    exact ⟨by show (bN m S (keys m)).length≤8;lia,gw ro.1,by lia⟩
   | lg l=>
    rw [q] at ro
    have:=hV S l
    have h2:=ro.1
    exact ⟨by show (aT S l).length < 100;lia,by show (aT S l).length≤4;lia⟩
  refine xQ hleft.1 ?_
  exact (uh (n:=n) hleft.2).go (kk _)
 refine ag ?_
 subst hcut
 refine bc (ok:=fun _=>True) (ol rows bj.kind (ch S)) (fun k=>((fc rows k).left S).told) (fun s:Slot=>[(47,s),(113,.val (bl jW (.str 114) ((named.filter (gf (aP (ch S) rows))).map (cM (aP (ch S) rows))) ((aP (ch S) rows).map (ol rows bj.kind (ch S))))),(4,.val (.list (rows.map bj.t))),(104,.val (.list (named.map .int))),(93,.val (DI (bJ S))),(110,.val (.list (rows.map fun r=>(r.left S).t))),(111,.val (.list ((aP (ch S) rows).map .int))),(112,.val (.list ((aP (ch S) rows).map fun k=>((fc rows k).left S).told)))]) (fun _=>trivial) (aP (ch S) rows) (fun k hk s K kk=>?_) .unb fun s=>?_
 ·obtain ⟨h0,hm,hx,hb⟩:=lv k hk
  have e:ol rows bj.kind (ch S) k=be (fc rows k).kind (.list [(fc rows k).cutT S]):=by
   unfold ol
   rw [hx]
   dsimp only
   unfold ch at hb ⊢
   induction q:(fc rows k).idle S with
   | true=>rw [q] at hb;cases hb
   | false=>rfl
  rw [e]
  exact (FF (n:=n) _ (hr _ hm) S).go (kk _)
 refine ab (vh (d:=9) (.list 8 _ fun x hx=>by obtain ⟨k,_,rfl⟩:=bo.mp hx;exact zJ _) (by decide)) ?_
 refine bg (ok:=fun _=>True) T.int (fun k=>(aP (ch S) rows).contains k) (fun k=>.int (cM (aP (ch S) rows) k)) (fun s:Slot=>[(56,s),(113,.val (bl jW (.str 114) ((named.filter (gf (aP (ch S) rows))).map (cM (aP (ch S) rows))) ((aP (ch S) rows).map (ol rows bj.kind (ch S))))),(4,.val (.list (rows.map bj.t))),(104,.val (.list (named.map .int))),(93,.val (DI (bJ S))),(110,.val (.list (rows.map fun r=>(r.left S).t))),(111,.val (.list ((aP (ch S) rows).map .int))),(112,.val (.list ((aP (ch S) rows).map fun k=>((fc rows k).left S).told)))]) (fun k=>.val (.int k)) (fun _=>trivial) named (fun k hk s K kk=>?_) (fun k hk hp K kk=>?_) .unb fun s=>?_
 ·refine ab (Hy _ k) ?_
  induction q:(aP (ch S) rows).contains k with
  | true=>rw [q] at kk;exact ff rfl kk
  | false=>rw [q] at kk;exact fJ rfl kk
 ·exact And.intro rfl (ab (wg (fK.mp hp)) (kk _))
 have e3:((named.filter (gf (aP (ch S) rows))).map (cM (aP (ch S) rows))).map T.int=(named.filter fun k=>(aP (ch S) rows).contains k).map fun k=>T.int (cM (aP (ch S) rows) k):=by
  rw [cp]
  have e4:named.filter (gf (aP (ch S) rows))=named.filter fun k=>(aP (ch S) rows).contains k:=List.filter_congr fun k _=>by
   unfold gf
   induction q:(aP (ch S) rows).contains k with
   | true=>exact br (fK.mp q)
   | false=>exact eK fun c=>by rw [fK.mpr c] at q;cases q
  rw [e4];rfl
 rw [← e3]
 refine ab (wS (d:=1) (.list 0 _ (PL.ints _)) (by decide)) ?_
 exact h
end
end
section
noncomputable abbrev LE (a0 a1 a2 a3 a4 a5 a6 a7 a8 a9 a10 a11 a12 a13 a14 a15 a16 a17 a18:Slot):Env:=
 [(115,a0),(96,a1),(4,a2),(104,a3),(1,a4),(6,a5),(32,a6),(11,a7),(30,a8),(31,a9),(28,a10),(69,a11),(116,a12),(117,a13),(67,a14),(112,a15),(93,a16),(113,a17),(118,a18)]
theorem yx {m:List ((Int×Int)×Int)} (h:∀ p∈m,gl p.1.1∧gl p.1.2):bi .dict (DA m)=some (DA m):=by
 show (if jo (em kP fw m)=true then some (T.dict _) else none)=_
 rw [au]
 unfold jo em
 rw [Bool.or_eq_true]
 right
 rw [List.all_map,aY]
 intro p hp
 obtain ⟨h1,h2⟩:=h p hp
 exact br ⟨h1.1,h1.2,h2.1,h2.2⟩
section
variable {n:Nat}
theorem Jh {Q:T→Option T→Prop} (tag:T) (feats:List T) (ls:T) (h:Q (FJ jW (.list [oq tag (.list feats)]) ls) none):CN (n+2) 72 [tag,.list feats,ls] none Q:=by
 refine ao (fd:=mH) rfl rfl rfl (And.intro (by decide) (Kf _ _ (And.intro rfl ?_)))
 refine And.intro (by decide) (De _ _ _ (And.intro rfl ?_))
 refine And.intro (by decide) (tI _ _ (And.intro rfl ?_))
 exact And.intro (by decide) (wx _ _ _ (And.intro rfl h))
theorem DC (a0 a1 a4 a5 a6 a7:Slot) (rows:List bj) (named:List Int) (hr:∀ r∈rows,r.ok) (K:T→Env→Prop)
  (h:K (if rows.isEmpty then .none else bl jW (.str 114) named (rows.map bj.look)) (LE a0 a1 (.val (.list (rows.map bj.t))) (.val (.list (named.map .int))) a4 a5 a6 a7 .unb .unb .unb .unb .unb .unb .unb .unb .unb .unb .unb)) :
  iX (cQ (.v 4)) (aK 72 (aa (ah (.str 114)) (aa (ae 104) (aa (aE [10] (.v 4) (.one 10) aH (aK 74 (aa (ae 10) ak) none)) ak))) none) (ah .none) (CN (n+4)) (LE a0 a1 (.val (.list (rows.map bj.t))) (.val (.list (named.map .int))) a4 a5 a6 a7 .unb .unb .unb .unb .unb .unb .unb .unb .unb .unb .unb) K:=by
 induction e:rows.isEmpty with
 | true=>
  rw [au e] at h
  refine fJ ?_ h
  induction rows with
  | nil=>rfl
  | cons _ _=>exact bt e
 | false=>
  rw [av (by rw [e];exact bO)] at h
  refine ff ?_ ?_
  ·induction rows with
   | nil=>exact nomatch e
   | cons _ _=>rfl
  ·refine ag ?_
   refine bc (ok:=fun _=>True) bj.t bj.look (fun s:Slot=>(10,s)::LE a0 a1 (.val (.list (rows.map bj.t))) (.val (.list (named.map .int))) a4 a5 a6 a7 .unb .unb .unb .unb .unb .unb .unb .unb .unb .unb .unb) (fun _=>trivial) rows (fun r hm s K kk=>?_) .unb fun s=>?_
   ·refine ag (xQ ?_ (kk _))
    have:=hr r hm
    induction r with
    | sg m=>show m.length≤8;have:=this.2.1;lia
    | lg l=>show l.length < 100;have:=this.1;lia
   ·exact Jh _ _ _ h
theorem E9 (a0 a2 a3 a4 a5 a6 a8:Slot) (pa:List ((Int×Int)×Int)) (hp:∀ p∈pa,gl p.1.1∧gl p.1.2) (p:jU) (k:Int) (hk:p.ok k) (hk2:k < 9000) (K:T→Env→Prop)
  (h:∀ (pos:Bool) (p':jU),p'.ok (k+1)→K (if pos then bl jW (.str 32) [0] [be 33 (.list [ee (DA pa)])] else .none) (LE a0 (.own false p'.t) a2 a3 a4 a5 a6 (.val (DA pa)) a8 .unb .unb .unb .unb .unb .unb .unb .unb .unb .unb)) :
  iX (aD .Eq (aK 71 (aa (ah (.int 2)) ak) (some 96)) (.e (ah (.int 1)))) (aK 72 (aa (ah (.str 32)) (aa (bM (aa (ah (.int 0)) ak)) (aa (bM (aa (dE 6 14 (aa (ah (.str 33)) (aa (ah (.int 0)) (aa (ah (.int 0)) (aa (bM (aa (dE 3 7 (aa (bW .dict (.v 11)) ak)) ak)) ak))))) ak)) ak))) none) (ah .none) (CN (n+5))
   (LE a0 (.own false p.t) a2 a3 a4 a5 a6 (.val (DA pa)) a8 .unb .unb .unb .unb .unb .unb .unb .unb .unb .unb) K:=by
 refine ag (dD 2 (by decide) p k hk (by lia) fun d p' d0 d1 hp'=>ab rfl ?_)
 refine fZ (fun q=>?_) fun q=>?_
 ·refine ag (ab (yx hp) ?_)
  refine And.intro (by decide) (Az _ (And.intro rfl ?_))
  refine And.intro (by decide) (ir _ _ (And.intro rfl ?_))
  exact Jh _ _ _ (h true p' hp')
 ·exact h false p' hp'
end
end
section
theorem bx {d:Nat} (h:∀ x∈xs,PL d x):PL (d+1) (.tup xs):=.tup d xs h
theorem aB {d:Nat} {a:T} (h:PL d a) (hs:∀ x∈xs,PL d x):∀ x∈a::xs,PL d x:=fun x hx=>by
 rcases aU.mp hx with rfl | hx
 ·exact h
 ·exact hs x hx
theorem b6 {d:Nat}:∀ x∈([]:List T),PL d x:=fun _ h=>nomatch h
theorem hY {d:Nat} {f:α→T} {l:List α} (h:∀ x,PL d (f x)):∀ x∈l.map f,PL d x:=fun x hx=>by
 obtain ⟨y,_,rfl⟩:=bo.mp hx;exact h y
theorem wQ (m:List (Int×Int)):PL 3 (.tup (i6 T.int m)):=bx (hY fun k=>yD kI (fun k=>.int 1 k) m k)
theorem EP (m:List ((Int×Int)×Int)):PL 5 (.tup (lq m)):=by
 refine bx (hY fun k=>?_)
 refine bx (aB (bx (aB (.int 2 _) (aB (.int 2 _) b6))) (aB (bx ?_) b6))
 refine aB (bx (aB (.int 1 _) (aB (.int 1 _) (aB (.int 1 _) (aB (.int 1 _) b6))))) (aB (bx (aB (.int 1 _) (aB (.int 1 _) (aB (.int 1 _) (aB (.int 1 _) b6))))) b6)
noncomputable abbrev IK:T:=.tup [.str 103,.tup [.int (-1),.tup [.int 0]],.tup []]
theorem Ik:PL 9 IK:=bx (aB (.str 8 _) (aB (bx (aB (.int 7 _) (aB (bx (aB (.int 6 _) b6)) b6))) (aB (bx b6) b6)))
section
variable {n:Nat}
theorem DY:dX (n+2) (Gu (.str 103) (Ac (.int (-1)) (.list [.int 0])) (.dict [])) IK:=wk (.str 103) (Bl (.int (-1)) [.int 0]) rfl
theorem wP (tag:T) (named:List Int) (ls:List α) (mk tl:α→T) (h:∀ x∈ls,dX (n+4) (mk x) (tl x)) :
  dX (n+5) (bl jW tag named (ls.map mk)) (.tup [.tup [IK],.tup [.tup [tag,.tup (named.map .int)]],.tup (ls.map tl)]):=
 w8 ls mk tl (DY (n:=n+2)) (uY (n:=n+3) tag _) h
theorem FH {tag:T} {named:List Int} {us:List T} (ht:PL 8 tag) (h:∀ x∈us,PL 9 x):PL 11 (.tup [.tup [IK],.tup [.tup [tag,.tup (named.map .int)]],.tup us]):=
 bx (aB (bx (aB Ik b6)) (aB (bx (aB (bx (aB ht (aB (bx (hY fun k=>.int 7 k)) b6))) b6)) (aB (bx h) b6)))
theorem lR (m:List ((Int×Int)×Int)) (nm:(keys m).Nodup) (hl:m.length≤4):dX (n+4) (be 33 (.list [ee (DA m)])) (.tup [.str 33,.int 0,.int (-1),.tup [.tup [.str 14,.bool false,.tup (lq m)]]]):=fL 33 (Bh m nm hl)
theorem xq (m:List ((Int×Int)×Int)):PL 9 (.tup [.str 33,.int 0,.int (-1),.tup [.tup [.str 14,.bool false,.tup (lq m)]]]):=
 bx (aB (.str 8 _) (aB (.int 8 _) (aB (.int 8 _) (aB (bx (aB (bx (aB (.str 6 _) (aB (.bool 6 _) (aB ((EP m).up (by decide)) b6)))) b6)) b6))))
theorem w2:∀ r:bj,r.ok→match r with | .sg m=>(keys m).Nodup∧m.length < 60 | .lg l=>l.length≤4
 | .sg m,h=>⟨h.1,by have:=h.2.1;lia⟩
 | .lg l,h=>by show l.length≤4;have:=h.1;lia
theorem CJ (f:Fo) (h:f.ok):∃ u,PL 12 u∧dX (n+7) f.t u:=by
 have hs:∃ us,PL 11 us∧((f.gsub=.none∧us=.none)∨(bZ f.gsub=false∧dX (n+5) f.gsub us)):=by
  unfold Fo.gsub
  induction e:f.rows.isEmpty with
  | true=>exact ⟨.none,.none 11,.inl ⟨au rfl,rfl⟩⟩
  | false=>
   rw [av bO]
   exact ⟨_,FH (.str 8 _) (hY fun r=>(zJ r).up (by decide)),.inr ⟨rfl,wP (.str 114) f.named f.rows bj.look bj.told fun r hr=>uh (w2 r (h.rows r hr))⟩⟩
 have hp:∃ up,PL 11 up∧((f.gpos=.none∧up=.none)∨(bZ f.gpos=false∧dX (n+5) f.gpos up)):=by
  unfold Fo.gpos
  induction e:f.pos with
  | false=>exact ⟨.none,.none 11,.inl ⟨av bO,rfl⟩⟩
  | true=>
   rw [au rfl]
   exact ⟨_,FH (.str 8 _) (hY fun r=>xq f.pairs),.inr ⟨rfl,wP (.str 32) [0] [()] (fun _=>be 33 (.list [ee (DA f.pairs)])) (fun _=>.tup [.str 33,.int 0,.int (-1),.tup [.tup [.str 14,.bool false,.tup (lq f.pairs)]]]) fun r hr=>lR f.pairs h.pn h.pl⟩⟩
 obtain ⟨us,l1,hs⟩:=hs
 obtain ⟨up,l2,hp⟩:=hp
 have ncm:(keys f.cm).Nodup:=h.cn.sublist (List.Sublist.map _ fR)
 have lcm:f.cm.length < 60:=eG (gH _ _) (by have:=h.cl;lia)
 refine ⟨_,?_,AV (n:=n+5) f.kern (.int 1000) (.int 700) (.int (-200)) h.ke h.kel (A9 f.cm ncm lcm) (CD (n:=n+4) f.cls h.kn (by have:=h.kl;lia)) hs hp⟩
 refine bx (aB (bx (aB ((wQ _).up (by decide)) (aB (.none 10) b6))) (aB (bx ?_) (aB (bx ?_) (aB l1 (aB l2 (aB (bx ?_) b6))))))
 ·exact aB (.int 10 _) (aB (.int 10 _) (aB (.int 10 _) (aB (bx (hY fun i=>.int 9 _)) (aB (bx (hY fun i=>.int 9 _)) b6))))
 ·exact aB ((wQ _).up (by decide)) (aB (bx b6) (aB (bx b6) (aB (bx b6) (aB (bx b6) b6))))
 ·exact hY fun k=>(yD kP (fun k=>bx (aB (.int 0 _) (aB (.int 0 _) b6))) f.kern k).up (by decide)
end
end
section
noncomputable abbrev Qp (p:(Int×Int)×Int):T:=.tup [kP.t p.1,.int p.2]
noncomputable abbrev QB (p:(Int×Int)×Int):T:=.tup [kP.t p.1,fw p.2]
theorem yq {i:Nat} {done l:List Nat} (e:List.range n=done++i::l):i=done.length:=by
 have h:(List.range n)[done.length]? = some i:=by rw [e];simp
 have hl:done.length < n:=by have:=aw List.length e;rw [eh,bS,eH] at this;lia
 rw [List.getElem?_range hl] at h
 exact (az h).symm
theorem MT {cs:List Int} (h:cs.Sublist [97,98,99,100,101,500]):zA cs:=by
 have h2:(32::cs).Sublist [32,97,98,99,100,101,500]:=h.cons_cons 32
 refine ⟨List.Nodup.sublist h2 (by decide),fun c hc=>?_,?_⟩
 ·have:=h.subset hc
  revert this
  have key:∀ c∈([97,98,99,100,101,500]:List Int),B4 c=false:=by decide
  exact key c
 ·have:=h.length_le
  exact eG this (by decide)
theorem q0 {codes:List (Int×Int)} (nd:(keys codes).Nodup) (w:Int):fT (codes.filter fun p=>p.2 != 0) w=fT codes w:=by
 have nf:(keys (codes.filter fun p=>p.2 != 0)).Nodup:=nd.sublist (List.Sublist.map _ fR)
 unfold fT
 induction e:b7 (codes.filter fun p=>p.2 != 0) w with
 | some v=>rw [dw nd (b8.mp (cY e)).1]
 | none=>
  induction e2:b7 codes w with
  | none=>rfl
  | some v=>
   by_cases h:v=0
   ·rw [h];rfl
   ·have:=dw nf (b8.mpr ⟨cY e2,by simpa using h⟩)
    rw [e] at this;exact nn this
theorem nK (f:Fo) (S:List Int):bZ f.gsub=f.rows.isEmpty∧bZ (f.gsub' S)=f.rows.isEmpty:=by
 unfold Fo.gsub Fo.gsub'
 induction e:f.rows.isEmpty with
 | true=>exact ⟨by rw [au rfl];rfl,by rw [au rfl];rfl⟩
 | false=>exact ⟨by rw [av bO];rfl,by rw [av bO];rfl⟩
theorem nY (f:Fo) (S:List Int):bZ f.gpos=!f.pos∧bZ (f.gpos' S)=!f.pos:=by
 unfold Fo.gpos Fo.gpos'
 induction e:f.pos with
 | true=>exact ⟨by rw [au rfl];rfl,by rw [au rfl];rfl⟩
 | false=>exact ⟨by rw [av bO];rfl,by rw [av bO];rfl⟩
theorem wM {a b:List (Int×Int)} (h:a.Perm b) (nd:a.Nodup):bh a=bh b:=
 zS (ie nd) (ie (h.nodup_iff.mp nd)) (((bH a).trans h).trans (bH b).symm)
theorem za {a b:List ((Int×Int)×Int)} (h:a.Perm b) (nd:(keys a).Nodup):lq a=lq b:=by
 unfold lq
 rw [wM (h.map Prod.fst) nd]
 refine iv fun k _=>?_
 unfold mh
 rw [mS h nd]
theorem Jw (f:Fo) (S:List Int):aP (jN f S) [()]=if (f.kp S).isEmpty then [] else [0]:=by
 unfold aP
 have e:jN f S ()=if (f.kp S).isEmpty then [] else [ee (DA (f.kp S))]:=rfl
 show (([0]:List Nat).filter fun i=>match [()][i]? with | some x=>!(jN f S x).isEmpty | none=>false).map Int.ofNat=_
 induction q:(f.kp S).isEmpty with
 | true=>rw [q] at e;simp [e]
 | false=>rw [q] at e;simp [e]
theorem l8 {k:Nat} (h:n≤k) (hk:k≤1048576):n≤SZ:=aI h hk
theorem jU.ok.le {a b:Int} (h:p.ok a) (hl:a≤b):p.ok b:=⟨h.1,Int.le_trans h.2 hl⟩
theorem jU.ok.snoc {c:Int} {bs:List α} {x:α} (h:p.ok (c+bs.length+1)):p.ok (c+(bs++[x]).length):=h.le (by rw [jR];lia)
theorem jU.ok.snoc2 {c:Int} {bs:List α} {x:α} (h:p.ok (c+2*bs.length+1+1)):p.ok (c+2*(bs++[x]).length):=h.le (by rw [jR];lia)
theorem Qa {c k:Int} {m:Nat} {K:Nat} (e:n+m=K) (hK:(K:Int)≤k) (h:c+k < 10000):c+n < 10000:=by lia
theorem Qm {c k:Int} {m:Nat} {K:Nat} (e:n+m=K) (hK:(K:Int)≤k) (h:c+2*k < 9000):c+2*n < 10000∧c+2*n+1 < 10000:=by lia
theorem uH {r a l:List α} {i:α} (e:a++i::l=r):a.length+(l.length+1)=r.length:=by rw [← e,bS,eH]
theorem E3 (h:bs.Pairwise (· < ·)) (hb:∀ x∈bs,0≤x∧x < (n:Int)):(bs++[Int.ofNat n]).Pairwise (· < ·):=by
 rw [List.pairwise_append]
 refine ⟨h,List.pairwise_singleton _ _,fun a ha b hb'=>?_⟩
 rw [aV.mp hb']
 exact (hb a ha).2
theorem zQ (hb:∀ x∈bs,0≤x∧x < (n:Int)):∀ x∈bs,0≤x∧x < ((n+1:Nat):Int):=fun x h=>⟨(hb x h).1,Int.lt_trans (hb x h).2 (by lia)⟩
theorem O1 (h:n≤60):n < 1000:=by lia
theorem Qo (h:n≤4):(n:Int) < 1000:=by lia
theorem r4 (h:n≤4):(n:Int)≤4:=Int.ofNat_le.mpr h
theorem Qq (h:n≤4):50+(n:Int)≤54:=by lia
theorem BG {d:Int} (h0:0≤d) (h1:d < 5):(d.toNat:Int)≤4:=by lia
theorem AB {m:Nat} (e:n=m) (h:(m:Int)≤4):n≤4:=by lia
theorem QC {m:Nat} (h:(m:Int)≤4):69+2*(m:Int)≤80:=by lia
theorem PW (h:n < 4):(50:Int)+n < 10000:=by lia
theorem GB {rows:List bj} (h:rows.length≤4):Int.toNat ((rows.map bj.t).length:Int)≤4:=by rw [ba];exact h
theorem vV {cs:List Int} (a:zA cs):cs.length+1≤60:=by have:=a.len;lia
theorem Os {k:Int} (h:0≤k∧k < n):k.toNat < n:=by lia
noncomputable def rB (N:Nat) (l:List Nat) (bs:List Int) (p:jU):Prop:=∃ done,List.range N=done++l∧bs.Pairwise (· < ·)∧(∀ x∈bs,0≤x∧x < done.length)∧bs.length≤done.length∧p.ok (50+done.length)
theorem rB.at {N i:Nat} {l:List Nat} (h:rB N (i::l) bs p):i < N∧bs.Pairwise (· < ·)∧(∀ x∈bs,0≤x∧x < i)∧bs.length≤i∧p.ok (50+i)∧List.range N=List.range i++i::l:=by
 obtain ⟨done,e,h1,h2,h3,h4⟩:=h
 have hi:=yq e
 have hl:=uH e.symm
 rw [eh] at hl
 have ht:=aw (List.take done.length) e
 rw [List.take_append_of_le_length (Nat.le_refl _),List.take_length,List.take_range,Nat.min_eq_left (hl▸Nat.le_add_right _ _)] at ht
 rw [hi]
 exact ⟨hl▸Nat.lt_add_of_pos_right (Nat.succ_pos _),h1,h2,h3,h4,by rw [ht,← hi];exact e⟩
theorem rB.pen {N i:Nat} {l:List Nat} (h:rB N (i::l) bs p):p.ok (50+i)∧(N≤4→(50:Int)+i < 10000):=⟨h.at.2.2.2.2.1,fun n=>PW (gI h.at.1 n)⟩
theorem rB.step {N i:Nat} {l:List Nat} {p':jU} (h:rB N (i::l) bs p) (hp:p'.ok (50+i+1)):rB N l (bs++[Int.ofNat i]) p'∧rB N l bs p':=by
 have e:List.range N=List.range (i+1)++l:=by rw [h.at.2.2.2.2.2,List.range_succ,List.append_assoc];rfl
 have hp:p'.ok (50+((List.range (i+1)).length:Int)):=by rw [eh];exact (Int.add_assoc 50 (i:Int) 1)▸hp
 refine ⟨⟨List.range (i+1),e,E3 h.at.2.1 h.at.2.2.1,?_,?_,hp⟩,List.range (i+1),e,h.at.2.1,?_,?_,hp⟩
 ·rw [eh];exact lY (zQ h.at.2.2.1) ⟨hE _,Int.ofNat_lt.mpr (Nat.lt_succ_self _)⟩
 ·rw [eh,jR];exact gC h.at.2.2.2.1
 ·rw [eh];exact zQ h.at.2.2.1
 ·rw [eh];exact Nat.le_succ_of_le h.at.2.2.2.1
theorem rB.fin {N:Nat} (h:rB N [] bs p):bs.Pairwise (· < ·)∧(∀ x∈bs,0≤x∧x < N)∧bs.length≤N∧p.ok (50+N):=by
 obtain ⟨done,e,h⟩:=h
 rw [cj] at e
 rw [← e,eh] at h;exact h
noncomputable def xl (l:List Int) (bs:List (Int×Int)) (p:jU):Prop:=keys bs++l=[32,97,98,99,100,101]∧(∀ b∈bs,gl b.2)∧p.ok (54+bs.length)
theorem xl.lt {i:Int} {l:List Int} {bs:List (Int×Int)} (h:xl (i::l) bs p):54+(bs.length:Int) < 10000:=Qa (by rw [← bF];exact uH h.1) (Int.le_refl 6) (by decide)
theorem xl.step {i d:Int} {l:List Int} {bs:List (Int×Int)} {p':jU} (h:xl (i::l) bs p) (d0:0≤d) (d1:d < 12) (hp:p'.ok (54+bs.length+1)):xl l (bs++[(i,d)]) p':=
 ⟨by rw [keys,dK,List.append_assoc];exact h.1,lY h.2.1 ⟨d0,d1⟩,hp.snoc⟩
theorem xl.fin {bs:List (Int×Int)} (h:xl [] bs p):(keys bs).Nodup∧bs.length=6∧(∀ b∈bs,gl b.2)∧p.ok 60:=by
 obtain ⟨h1,h2,h3⟩:=h
 rw [cj] at h1
 have e:bs.length=6:=by rw [← bF,h1];rfl
 rw [e] at h3
 exact ⟨by rw [h1];decide,e,h2,h3⟩
noncomputable def pA {β:Type} (P:β→Prop) (c:Int) (K:Nat) (l:List Nat) (bs:List β) (p:jU):Prop:=bs.length+l.length=K∧(∀ b∈bs,P b)∧p.ok (c+2*bs.length)
section
variable {β:Type} {P:β→Prop} {c:Int} {K i:Nat} {l:List Nat} {bs:List β} {p p':jU}
theorem pA.start (e:l.length=K) (h:p.ok c):pA P c K l [] p:=⟨by rw [e];exact Nat.zero_add _,(fun _ h=>nomatch h),h.le (Int.le_of_eq (Int.add_zero c).symm)⟩
theorem pA.lt (h:pA P c K (i::l) bs p) (hK:(K:Int)≤4) (hc:c+2*4 < 9000):c+2*bs.length < 10000∧c+2*bs.length+1 < 10000:=Qm h.1 hK hc
theorem pA.step {b:β} (h:pA P c K (i::l) bs p) (hb:P b) (hp:p'.ok (c+2*bs.length+1+1)):pA P c K l (bs++[b]) p':=⟨Fh h.1,lY h.2.1 hb,hp.snoc2⟩
theorem pA.fin (h:pA P c K [] bs p):bs.length=K∧(∀ b∈bs,P b)∧p.ok (c+2*K):=⟨h.1,h.2.1,(show bs.length=K from h.1)▸h.2.2⟩
end
noncomputable def y4 (l bs:List Int) (p:jU):Prop:=∃ done:List Int,done++l=[97,98,99,100,101,500]∧bs.Sublist done∧p.ok (90+done.length)
theorem y4.step {i:Int} {l:List Int} (h:y4 (i::l) bs p):∃ c,(p.ok c∧c < 10000)∧∀ p',p'.ok (c+1)→y4 l (bs++[i]) p'∧y4 l bs p':=by
 obtain ⟨done,e,h1,h2⟩:=h
 have e':(done++[i])++l=[97,98,99,100,101,500]:=by rw [← e,List.append_assoc];rfl
 exact ⟨_,⟨h2,Qa (k:=6) (uH e) (by decide) (by decide)⟩,fun p' hp=>⟨⟨_,e',h1.append (List.Sublist.refl _),hp.snoc⟩,_,e',h1.trans (List.sublist_append_left _ _),hp.snoc⟩⟩
theorem y4.fin (h:y4 [] bs p):bs.Sublist [97,98,99,100,101,500]:=by
 obtain ⟨done,e,h1,_⟩:=h
 rw [cj] at e
 rw [← e];exact h1
theorem Fo.ind (h:∀ f:Fo,P f.rows f.named f.codes f.cls f.kern f.pairs f.pos) (a:List bj) (b:List Int) (c d:List (Int×Int)) (e g:List ((Int×Int)×Int)) (i:Bool):P a b c d e g i:=h ⟨a,b,c,d,e,g,i⟩
theorem kh [DecidableEq κ] (K:KE κ) (vf:ν→T) {l:List (κ×ν)} (e:xs=l.map fun p=>.tup [K.t p.1,vf p.2]) (nd:(keys l).Nodup) (hl:l.length≤SZ):bi .dict (.list xs)=some (D K vf l):=by
 rw [e,i4 K vf l hl,iE nd]
theorem Cw (mk:α→T) (f:α→T) (env:σ→Env) {ok:Env→Prop} (hok:∀ s,ok (env s)) (xs:List α) {ys:List T} (e:xs.map f=ys)
  (step:∀ x∈xs,∀ s,∀ K:T→Env→Prop,(∀ s',K (f x) (env s'))→eD g (mk x) (env s) fun ρ=>elt C ρ K)
  (s:σ) (fin:∀ s,Q ys (env s)):ce ok g aH elt C (xs.map mk) (env s) [] Q:=bc mk f env hok xs step s (e▸fin)
noncomputable abbrev LR (ks:List Int) (p:jU) (rows:List bj) (a3 a4 a5 a6 a7:Slot):Env:=
 LE (.val (.list (ks.map .int))) (.own false p.t) (.val (.list (rows.map bj.t))) a3 a4 a5 a6 a7 .unb .unb .unb .unb .unb .unb .unb .unb .unb .unb .unb
noncomputable abbrev LF (ks:List Int) (p:jU) (f:Fo) (u:T) (a13 a14 a15 a16 a17 a18:Slot):Env:=
 LE (.val (.list (ks.map .int))) (.own false p.t) (.val (.list (f.rows.map bj.t))) (.val (.list (f.named.map .int))) (.val (DI f.codes)) (.val (DI f.cls)) (.val (D kP T.int f.kern)) (.val (DA f.pairs)) (.val f.gsub) (.val f.gpos) (.val yr) (.val f.t) (.val u) a13 a14 a15 a16 a17 a18
noncomputable abbrev LG (ks:List Int) (p:jU) (f:Fo) (u:T) (cs base S:List Int) (a18:Slot):Env:=
 LF ks p f u (.val (.list (cs.map .int))) (.val (.set base)) (.val (.list (S.map .int))) (.val (DI (bJ S))) (.val (f.cut cs S)) a18
noncomputable def QL:T→Option T→Prop:=fun t r=>t=.bool true∧r=none
theorem Nr (ks:List Int):CN 20 78 [.list (ks.map .int)] none QL:=by
 refine ao (fd:=Ey) rfl rfl rfl ?_
 refine mf (List.map_take (f:=T.int) (l:=ks) (i:=40)).symm ?_
 refine bc T.int T.int (fun s:Slot=>(100,s)::LE (.val (.list (ks.map .int))) .unb .unb .unb .unb .unb .unb .unb .unb .unb .unb .unb .unb .unb .unb .unb .unb .unb .unb) (fun _=>trivial) (ks.take 40) (fun k hk s K kk=>?_) .unb fun s=>?_
 ·exact kk _
 refine ag (ag ?_)
 refine L3 ⟨ks.take 40,0,0⟩ ⟨Int.le_refl _,Int.le_refl _⟩ fun rows p1 rl rok hp1=>?_
 refine ab rfl (ag ?_)
 refine ab (fj (d:=((rows.map bj.t).length:Int)) (hE _) (by rw [ba];exact Qo rl)) ?_
 refine eN (ok:=fun _=>True) ed T.int (fun s:Slot×jU=>(56,s.1)::LR ks s.2 rows .unb .unb .unb .unb .unb) (fun l bs s=>rB (Int.toNat ((rows.map bj.t).length:Int)) l bs s.2) (fun _=>trivial) (fun i l bs s hh K k1 k2=>?_) (List.range _) (.unb,p1) ⟨[],rfl,.nil,(fun _ h=>nomatch h),Nat.le_refl _,hp1⟩ fun named s1 h1=>?_
 ·refine ag (dD 2 (by decide) s.2 _ hh.pen.1 (hh.pen.2 (GB rl)) fun d p' d0 d1 hp'=>ab rfl ?_)
  exact fZ (fun q=>k1 (Int.ofNat i) (.val (ed i),p') (hh.step hp').1) fun q=>k2 (.val (ed i),p') (hh.step hp').2
 have f1:=h1.fin
 rw [ba,Int.toNat_natCast] at f1
 refine ag ?_
 refine eN (ok:=fun _=>True) T.int P4 (fun s:Slot×jU=>(2,s.1)::LR ks s.2 rows (.val (.list (named.map .int))) .unb .unb .unb .unb) (fun l bs s=>xl l bs s.2) (fun _=>trivial) (fun i l bs s hh K k1 k2=>?_) [32,97,98,99,100,101] (.unb,s1.2) ⟨rfl,(fun _ h=>nomatch h),f1.2.2.2.le (Qq rl)⟩ fun codes s2 h2=>?_
 ·exact ag (dD 12 (by decide) s.2 _ hh.2.2 hh.lt fun d p' d0 d1 hp'=>ab rfl (k1 (i,d) (.val (.int i),p') (hh.step d0 d1 hp')))
 have f2:=h2.fin
 refine ab (kh kI T.int rfl f2.1 (l8 (er f2.2.1) (by decide))) (ag ?_)
 refine eN (ok:=fun _=>True) ed P4 (fun s:Slot×jU=>(105,s.1)::LR ks s.2 rows (.val (.list (named.map .int))) (.val (DI codes)) .unb .unb .unb) (fun l bs s=>pA (fun _=>True) 60 4 l bs s.2) (fun _=>trivial) (fun i l bs s hh K k1 k2=>?_) (List.range 4) (.unb,s2.2) ⟨rfl,fun _ _=>trivial,f2.2.2.2⟩ fun cls s3 h3=>?_
 ·refine ag (dD 12 (by decide) s.2 _ hh.2.2 (hh.lt (Int.le_refl 4) (by decide)).1 fun d p' d0 d1 hp'=>ab rfl (ag ?_))
  exact dD 4 (by decide) p' _ hp' (hh.lt (Int.le_refl 4) (by decide)).2 fun e p'' e0 e1 hp''=>ab rfl (k1 (d,1+e) (.val (ed i),p'') (hh.step trivial hp''))
 have f3:=h3.fin
 refine ab (i4 kI T.int cls (l8 (er f3.1) (by decide))) (ag ?_)
 have c3:=And.intro (g9 cls) (f3.1▸j9 cls)
 generalize iJ cls=cl at c3
 refine ag (dD 5 (by decide) s3.2 _ f3.2.2 (by decide) fun d p5 d0 d1 hp5=>ab rfl ?_)
 have dn:=BG d0 d1
 refine ab (fj d0 (Int.lt_trans d1 (by decide))) ?_
 refine eN (ok:=fun _=>True) ed Qp (fun s:Slot×jU=>(105,s.1)::LR ks s.2 rows (.val (.list (named.map .int))) (.val (DI codes)) (.val (DI cl)) .unb .unb) (fun l bs s=>pA (fun b=>gl b.1.1∧gl b.1.2) 69 d.toNat l bs s.2) (fun _=>trivial) (fun i l bs s hh K k1 k2=>?_) (List.range d.toNat) (.unb,p5) (.start (eh ..) hp5) fun kern s4 h4=>?_
 ·refine ag (dD 12 (by decide) s.2 _ hh.2.2 (hh.lt dn (by decide)).1 fun a p' a0 a1 hp'=>ab rfl (ag ?_))
  exact dD 12 (by decide) p' _ hp' (hh.lt dn (by decide)).2 fun b p'' b0 b1 hp''=>ab rfl (k1 ((a,b),3+Int.ofNat i) (.val (ed i),p'') (hh.step ⟨⟨a0,a1⟩,b0,b1⟩ hp''))
 have f4:=h4.fin
 refine ab (i4 kP T.int kern (l8 (AB f4.1 dn) (by decide))) (ag ?_)
 have c4:=And.intro (g9 kern) (aI (j9 kern) (AB f4.1 dn))
 generalize iJ kern=ke at c4
 refine eN (ok:=fun _=>True) ed QB (fun s:Slot×jU=>(105,s.1)::LR ks s.2 rows (.val (.list (named.map .int))) (.val (DI codes)) (.val (DI cl)) (.val (D kP T.int ke)) .unb) (fun l bs s=>pA (fun b=>gl b.1.1∧gl b.1.2) 80 3 l bs s.2) (fun _=>trivial) (fun i l bs s hh K k1 k2=>?_) (List.range 3) (.unb,s4.2) (.start rfl (f4.2.2.le (QC dn))) fun pairs s5 h5=>?_
 ·refine ag (dD 12 (by decide) s.2 _ hh.2.2 (hh.lt (by decide) (by decide)).1 fun a p' a0 a1 hp'=>ab rfl (ag ?_))
  refine dD 12 (by decide) p' _ hp' (hh.lt (by decide) (by decide)).2 fun b p'' b0 b1 hp''=>ab rfl ?_
  refine And.intro (by decide) (Ar _ _ _ _ (And.intro rfl ?_))
  refine And.intro (by decide) (Ar _ _ _ _ (And.intro rfl ?_))
  exact k1 ((a,b),Int.ofNat i+1) (.val (ed i),p'') (hh.step ⟨⟨a0,a1⟩,b0,b1⟩ hp'')
 have f5:=h5.fin
 refine ab (i4 kP fw pairs (l8 (er f5.1) (by decide))) (ag ?_)
 have c5:=And.intro (g9 pairs) (And.intro (aI (j9 pairs) (f5.1▸(by decide):pairs.length≤4)) fun p hp=>f5.2.1 p (tQ hp))
 generalize iJ pairs=pa at c5
 refine DC (n:=15) _ _ _ _ _ _ rows named rok _ (ag ?_)
 refine E9 (n:=14) _ _ _ _ _ _ _ pa c5.2.2 s5.2 _ f5.2.2 (by decide) _ fun pos p8 hp8=>ag ?_
 have fok:(Fo.mk rows named codes cl ke pa pos).ok:=⟨rl,rok,⟨f1.1,f1.2.1⟩,aI f1.2.2.1 rl,f2.1,er f2.2.1,f2.2.2.1,c3.1,c3.2,c4.1,c4.2,c5.1,c5.2.1⟩
 clear h1 h2 h3 h4 h5 f1 f2 f3 f4 f5 c3 c4 c5 rl rok dn d0 d1 hp5
 revert rows named codes cl ke pa pos
 refine Fo.ind ?_
 intro f fok
 have fok:f.ok:=fok
 refine bc (ok:=fun _=>True) ed (fun i=>T.int (100+Int.ofNat i)) (fun s:Slot=>(7,s)::LE (.val (.list (ks.map .int))) (.own false p8.t) (.val (.list (f.rows.map bj.t))) (.val (.list (f.named.map .int))) (.val (DI f.codes)) (.val (DI f.cls)) (.val (D kP T.int f.kern)) (.val (DA f.pairs)) (.val f.gsub) (.val f.gpos) .unb .unb .unb .unb .unb .unb .unb .unb .unb) (fun _=>trivial) (List.range 12) (fun i hi s K kk=>?_) .unb fun s=>?_
 ·exact kk _
 refine bc (ok:=fun _=>True) ed ed (fun s:Slot=>(7,s)::LE (.val (.list (ks.map .int))) (.own false p8.t) (.val (.list (f.rows.map bj.t))) (.val (.list (f.named.map .int))) (.val (DI f.codes)) (.val (DI f.cls)) (.val (D kP T.int f.kern)) (.val (DA f.pairs)) (.val f.gsub) (.val f.gpos) .unb .unb .unb .unb .unb .unb .unb .unb .unb) (fun _=>trivial) (List.range 12) (fun i hi s K kk=>?_) .unb fun s=>?_
 ·exact kk _
 refine And.intro (by decide) (uo _ _ _ _ _ (And.intro rfl (ag ?_)))
 refine And.intro (by decide) (tY f.codes fok.cn (eG fok.cl (by decide)) (And.intro rfl ?_) [] (.inl rfl))
 refine And.intro (by decide) (vy _ (And.intro rfl ?_))
 refine And.intro (by decide) (vy _ (And.intro rfl ?_))
 refine And.intro (by decide) (Gp _ _ _ (And.intro rfl ?_))
 refine And.intro (by decide) (DZ _ _ _ _ _ _ (And.intro rfl (ag ?_)))
 obtain ⟨u,pu,tu⟩:=CJ (n:=12) f fok
 refine tu.go (ag ?_)
 have cn:=fok.cn
 have kn:=fok.kn
 have ken:=fok.ke
 have pn:=fok.pn
 refine eN (ok:=fun _=>True) T.int T.int (fun s:Slot×jU=>(2,s.1)::LF ks s.2 f u .unb .unb .unb .unb .unb .unb)
  (fun l bs s=>y4 l bs s.2) (fun _=>trivial) (fun i l bs s hh K k1 k2=>?_) [97,98,99,100,101,500] (.unb,p8) ⟨[],rfl,.slnil,hp8.le (by decide)⟩ fun cs s9 h9=>?_
 ·obtain ⟨c,hc,st⟩:=hh.step
  refine ag (dD 3 (by decide) s.2 c hc.1 hc.2 fun d p' d0 d1 hp'=>ab rfl ?_)
  exact fZ (fun q=>k1 i (.val (.int i),p') (st p' hp').1) fun q=>k2 (.val (.int i),p') (st p' hp').2
 have ask:=MT h9.fin
 obtain ⟨_,p9⟩:=s9
 refine ag ?_
 refine ab (add_list (xs:=cs.map T.int) (ys:=[.int 32]) (by rw [ba];exact aI (vV ask) (by decide))) ?_
 refine mf (show cs.map T.int++[.int 32]=(cs++[32]).map T.int by rw [dK];rfl) ?_
 refine bc (ok:=fun _=>True) T.int (fun c=>T.int (fT f.codes c)) (fun s:Slot=>(2,s)::LF ks p9 f u (.val (.list (cs.map .int))) .unb .unb .unb .unb .unb) (fun _=>trivial) (cs++[32]) (fun c hc s K kk=>?_) .unb fun s=>?_
 ·refine And.intro rfl (ab (lJ kI T.int f.codes c (.int 0)) ?_)
  have e:((b7 f.codes c).map T.int).getD (.int 0)=.int (fT f.codes c):=by unfold fT;cases b7 f.codes c<;>rfl
  rw [e];exact kk _
 have hlen:(cs++[32]).length≤60:=by rw [jR];exact vV ask
 refine ab (add_list (xs:=[T.int 0]) (ys:=(cs++[32]).map fun c=>T.int (fT f.codes c)) (by rw [ba,Nat.add_comm];exact aI (gC hlen) (by decide))) ?_
 refine ab (a:=T.set (canon (0::(cs++[32]).map (fT f.codes)))) ?_ ?_
 ·have:=qo (l:=0::(cs++[32]).map (fT f.codes)) (by rw [eH,ba];exact aI (gC hlen) (by decide))
  rw [c8,cp] at this
  exact this
 generalize hbase:canon (0::(cs++[32]).map (fT f.codes))=base
 refine ag (ag ?_)
 have bmem:∀ x,x∈base↔x=0∨∃ w∈(32::cs),x=fT f.cm w:=fun x=>by
  rw [← hbase,aN,aU,bo]
  refine or_congr Iff.rfl ⟨fun ⟨c,hc,e⟩=>⟨c,?_,?_⟩,fun ⟨c,hc,e⟩=>⟨c,?_,?_⟩⟩
  ·rcases cD.mp hc with hc | hc
   ·exact .tail _ hc
   ·rw [aV.mp hc];exact .head _
  ·rw [q0 cn];exact e.symm
  ·rcases aU.mp hc with rfl | hc
   ·exact du _ (.head _)
   ·exact eW _ hc
  ·rw [e,q0 cn]
 have bgl:∀ x∈base,gl x:=fun x hx=>by
  rcases (bmem x).mp hx with rfl | ⟨w,_,rfl⟩
  ·exact ⟨by decide,by decide⟩
  ·unfold fT
   induction e:b7 f.cm w with
   | none=>exact ⟨by decide,by decide⟩
   | some v=>exact Js fok _ (cY e)
 have binc:base.Pairwise (· < ·):=by rw [← hbase];exact aJ _
 have hat:∀ k∈f.named,0≤k∧f.rows[k.toNat]? = some (fc f.rows k)∧fc f.rows k∈f.rows:=fun k hk=>by
  have:=fok.named.2 k hk
  have hlt:=Os this
  have e:f.rows[k.toNat]? = some f.rows[k.toNat]:=cq hlt
  have e2:fc f.rows k=f.rows[k.toNat]:=by show f.rows.getD _ _=_;rw [hQ,e];rfl
  rw [e2]
  exact ⟨this.1,e,List.getElem_mem _⟩
 refine Cw (ok:=fun _=>True) T.int (fun k=>(fc f.rows k).t) (fun s:Slot=>(56,s)::LF ks p9 f u (.val (.list (cs.map .int))) (.val (.set base)) .unb .unb .unb .unb) (fun _=>trivial) f.named (ys:=f.R.map bj.t) (by rw [cp];rfl) (fun k hk s K kk=>?_) .unb fun s=>?_
 ·obtain ⟨h0,hx,_⟩:=hat k hk
  exact ag (ab (iD (f:=bj.t) h0 hx) (kk _))
 refine DO base binc bgl f.R (fun r hr=>by
  obtain ⟨k,hk,rfl⟩:=bo.mp hr
  exact fok.rows _ (hat k hk).2.2) fun S hS=>?_
 have theS:Nb f cs S:=⟨fun gs S' hb hk=>hk.eq hS fun x=>(hb x).trans (bmem x).symm,base,bmem,hS⟩
 have nd:=hS.nd
 have sl:=hS.len
 refine ag ?_
 refine ag (DP (n:=12) f fok cs ask theS ?_)
 refine ab (vh (d:=1) (.list 0 _ (PL.ints S)) (by decide)) ?_
 refine bc (ok:=fun _=>True) T.int (fun g=>T.tup [.int g,.int (cM S g)]) (fun s:Slot=>(7,s)::LF ks p9 f u (.val (.list (cs.map .int))) (.val (.set base)) (.val (.list (S.map .int))) .unb .unb .unb) (fun _=>trivial) S (fun g hg s K kk=>?_) .unb fun s=>?_
 ·exact And.intro rfl (ab (wg hg) (kk _))
 have nlen:(bJ S).length≤12:=by rw [← bF,gy];exact sl
 refine ab (kh kI T.int (l:=bJ S) (by unfold bJ;rw [cp];rfl) (by rw [gy];exact nd) (l8 nlen (by decide))) (ag ?_)
 refine ag (FZ (n:=9) f fok cs ask theS (ag ?_))
 refine ab (add_list (xs:=cs.map T.int) (ys:=[.int 32]) (by rw [ba];exact aI (vV ask) (by decide))) ?_
 refine mf (show cs.map T.int++[.int 32]=(cs++[32]).map T.int by rw [dK];rfl) ?_
 have inS':∀ c∈cs++[32],fT f.codes c∈S:=fun c hc=>hS.lfp.sub _ ((bmem _).mpr (.inr ⟨c,(cD.mp hc).elim (.tail _) (fun h=>by rw [aV.mp h];exact .head _),(q0 cn c).symm⟩))
 refine bg (ok:=fun _=>True) T.int (fun c=>fT f.codes c != 0) (fun c=>T.tup [.int c,.int (cM S (fT f.codes c))]) (fun s:Slot=>(2,s)::LG ks p9 f u cs base S .unb) (fun c=>.val (.int c)) (fun _=>trivial) (cs++[32]) (fun c hc s K kk=>?_) (fun c hc hp K kk=>?_) .unb fun s=>?_
 ·refine And.intro rfl (ab (lJ kI T.int f.codes c (.int 0)) ?_)
  have e:((b7 f.codes c).map T.int).getD (.int 0)=.int (fT f.codes c):=by unfold fT;cases b7 f.codes c<;>rfl
  rw [e]
  induction q:fT f.codes c != 0 with
  | false=>rw [q] at kk;exact fJ q kk
  | true=>rw [q] at kk;exact ff q kk
 ·have hv:b7 f.codes c=some (fT f.codes c):=by
   unfold fT at hp ⊢
   induction e:b7 f.codes c with
   | none=>rw [e] at hp;exact bt hp
   | some v=>rfl
  refine ag (ag (ab (bE kI T.int hv) ?_))
  exact ab (bE kI T.int (dY nd (inS' c hc))) (kk _)
 have hcsn:(cs++[32]).Nodup:=by
  have:=ask.nd
  rw [cO] at this
  rw [cF]
  exact ⟨this.2,by simp,fun a ha b hb e=>this.1 (by rw [aV] at hb;rw [← hb,← e];exact ha)⟩
 have nk:(keys (I7 ((cs++[32]).filter fun c=>fT f.codes c != 0) fun c=>cM S (fT f.codes c))).Nodup:=by rw [iG];exact hcsn.sublist fR
 refine ab (kh kI T.int (l:=I7 ((cs++[32]).filter fun c=>fT f.codes c != 0) fun c=>cM S (fT f.codes c)) (by unfold I7;rw [cp];rfl) nk (by rw [← bF,iG];exact l8 (aI (gH _ _) hlen) (by decide))) ?_
 refine ab (oh kI (by unfold dB;rw [iG];exact (ec (aJ _)).sublist fR) nk fun k=>?_) ?_
 ·unfold dB
  rw [Ai,Ai]
  have e2:k∈((canon (32::cs)).filter fun c=>fT f.cm c != 0)↔k∈((cs++[32]).filter fun c=>fT f.codes c != 0):=by
   rw [b8,b8,aN,q0 cn]
   simp [or_comm]
  by_cases q:k∈((canon (32::cs)).filter fun c=>fT f.cm c != 0)
  ·rw [au q,au (e2.mp q),q0 cn]
  ·rw [av q,av fun c=>q (e2.mpr c)]
 refine (xB (n:=18) _ _ _ _ _).go ?_
 refine bc (ok:=fun _=>True) T.int (fun g=>T.int (100+g)) (fun s:Slot=>(7,s)::LG ks p9 f u cs base S .unb) (fun _=>trivial) S (fun g hg s K kk=>?_) .unb fun s=>?_
 ·exact kk _
 have pm:PL 3 (.tup [.int 1000,.int 700,.int (-200),.tup (Hu S),.tup (S.map .int)]):=bx (aB (.int 2 _) (aB (.int 2 _) (aB (.int 2 _) (aB (bx (hY fun g=>.int 1 _)) (aB (bx (hY fun g=>.int 1 _)) b6)))))
 refine ab rfl (ab (vh pm (by decide)) ?_)
 refine gv kI T.int ?_
 refine bg (ok:=fun _=>True) T.int (fun g=>decide (g∈S)) (fun g=>T.tup [.int (cM S g),.int ((b7 f.cls g).getD 0)]) (fun s:Slot=>(7,s)::LG ks p9 f u cs base S .unb) (fun c=>.val (.int c)) (fun _=>trivial) (keys f.cls) (fun g hg s K kk=>?_) (fun g hg hp K kk=>?_) .unb fun s=>?_
 ·refine ab (jJ kI T.int (bJ S) g) ?_
  rw [c7]
  induction q:decide (g∈S) with
  | false=>rw [q] at kk;exact kk
  | true=>rw [q] at kk;exact kk
 ·obtain ⟨v,hv⟩:=cA hg
  rw [hv] at kk
  refine ag (ab (bE kI T.int (dY nd (bI hp))) ?_)
  exact ag (ab (bE kI T.int hv) (kk _))
 refine ab (kh kI T.int (l:=f8 f.cls S (keys f.cls)) (by unfold f8;rw [cp];rfl) (gF kn) (by unfold f8;rw [ba];exact l8 (aI (gH _ _) (aI (er (bF _)) fok.kl)) (by decide))) ?_
 refine ab (oh kI (gF (ec (aJ _))) (gF kn) fun k=>mS (((gU kn).filter _).map _) (gF (ec (aJ _))) k) ?_
 refine gv kP T.int ?_
 refine bg (ok:=fun _=>True) kP.t (sC S) (fun p=>T.tup [.tup [.int (cM S p.1),.int (cM S p.2)],.int ((b7 f.kern p).getD 0)]) (fun s:Slot×Slot=>(37,s.1)::(58,s.2)::LG ks p9 f u cs base S .unb) (fun p=>(.val (.int p.1),.val (.int p.2))) (fun _=>trivial) (keys f.kern) (fun p hp s K kk=>?_) (fun p hp h2 K kk=>?_) (.unb,.unb) fun s=>?_
 ·refine ab (jJ kI T.int (bJ S) p.1) ?_
  rw [c7]
  induction q:gf S p.1 with
  | false=>unfold sC at kk;rw [q] at kk;exact fJ q kk
  | true=>
   refine ff q (ab (jJ kI T.int (bJ S) p.2) ?_)
   rw [c7]
   induction q2:gf S p.2 with
   | false=>unfold sC at kk;rw [q,q2] at kk;exact fJ q2 kk
   | true=>unfold sC at kk;rw [q,q2] at kk;exact ff q2 kk
 ·obtain ⟨v,hv⟩:=cA hp
  rw [hv] at kk
  unfold sC at h2
  rw [bC] at h2
  refine ag (ab (bE kI T.int (dY nd (dG h2.1))) ?_)
  refine ag (ab (bE kI T.int (dY nd (dG h2.2))) ?_)
  exact ag (ab (bE kP T.int hv) (kk _))
 have lkp:=nt f.kern S (keys f.kern)
 rw [bF] at lkp
 refine ab (kh kP T.int (l:=bX f.kern S (keys f.kern)) (by unfold bX;rw [cp];rfl) (eM ken) (l8 (aI lkp fok.kel) (by decide))) ?_
 have ncan:(bh (keys f.kern)).Nodup:=(bH _).nodup_iff.mpr ken
 refine ab (oh kP (eM ncan) (eM ken) fun k=>mS (((bH _).filter _).map _) (eM ncan) k) ?_
 refine fJ rfl ?_
 refine fJ (b:=!(bZ (f.gsub' S)==bZ f.gsub)) (by rw [(nK f S).1,(nK f S).2];simp) ?_
 refine fJ (b:=!(bZ (f.gpos' S)==bZ f.gpos)) (by rw [(nY f S).1,(nY f S).2];simp) ?_
 refine Im (fun q rest=>?_) ?_
 ·refine ag ?_
  have q':f.rows.isEmpty=false:=by rw [← (nK f S).1];simpa using q
  have eg:f.gsub' S=bl jW (.str 114) ((f.named.filter (gf (aP (ch S) f.rows))).map (cM (aP (ch S) f.rows))) ((aP (ch S) f.rows).map (ol f.rows bj.kind (ch S))):=av (by rw [q'];exact bO)
  have hh:∀ Q:T→Option T→Prop,Q (.bool true) none→CN 19 77 [f.gsub' S,.list (f.rows.map bj.t),.list (f.named.map .int),DI (bJ S)] none Q:=fun Q h=>by
   rw [eg];exact vN (n:=14) f.rows fok.rows fok.rl f.named S nd h
  exact hh _ rest
 have fin:∀ s118:Slot,ai (aR (gV .Eq (cy mt (ae 69) 5 ak) (.v 116))) aj (CN 19) (LG ks p9 f u cs base S s118) (fun fl ρ=>nZ Ey.ref ρ fun r'=>QL (Bz fl) r'):=fun s118=>by
  refine tu.go ?_
  exact ab (wS pu (by decide)) (show QL _ _ from ⟨rfl,rfl⟩)
 refine fJ rfl ?_
 refine fZ (fun q=>?_) fun q=>?_
 case refine_2=>exact fin .unb
 have q':f.pos=true:=by
  have:=(nY f S).1
  induction e:f.pos with
  | true=>rfl
  | false=>rw [e] at this;have q:(!bZ f.gpos)=true:=q;rw [this] at q;exact bt q
 refine gv kP fw ?_
 refine bg (ok:=fun _=>True) kP.t (sC S) (fun p=>T.tup [.tup [.int (cM S p.1),.int (cM S p.2)],fw ((b7 f.pairs p).getD 0)]) (fun s:Slot×Slot=>(37,s.1)::(58,s.2)::LG ks p9 f u cs base S .unb) (fun p=>(.val (.int p.1),.val (.int p.2))) (fun _=>trivial) (keys f.pairs) (fun p hp s K kk=>?_) (fun p hp h2 K kk=>?_) (.unb,.unb) fun s=>?_
 ·refine ab (jJ kI T.int (bJ S) p.1) ?_
  rw [c7]
  induction q:gf S p.1 with
  | false=>unfold sC at kk;rw [q] at kk;exact fJ q kk
  | true=>
   refine ff q (ab (jJ kI T.int (bJ S) p.2) ?_)
   rw [c7]
   induction q2:gf S p.2 with
   | false=>unfold sC at kk;rw [q,q2] at kk;exact fJ q2 kk
   | true=>unfold sC at kk;rw [q,q2] at kk;exact ff q2 kk
 ·obtain ⟨v,hv⟩:=cA hp
  rw [hv] at kk
  unfold sC at h2
  rw [bC] at h2
  refine ag (ab (bE kI T.int (dY nd (dG h2.1))) ?_)
  refine ag (ab (bE kI T.int (dY nd (dG h2.2))) ?_)
  exact ag (ab (bE kP fw hv) (kk _))
 have lpp:=nt f.pairs S (keys f.pairs)
 rw [bF] at lpp
 refine ab (kh kP fw (l:=bX f.pairs S (keys f.pairs)) (by unfold bX;rw [cp];rfl) (eM pn) (l8 (aI lpp fok.pl) (by decide))) ?_
 have ncp:(bh (keys f.pairs)).Nodup:=(bH _).nodup_iff.mpr pn
 have pperm:(f.kp S).Perm (bX f.pairs S (keys f.pairs)):=((bH _).filter _).map _
 have pnd:(keys (f.kp S)).Nodup:=eM ncp
 have plen:(f.kp S).length≤4:=by rw [pperm.length_eq];exact aI lpp fok.pl
 have hU:lq (f.kp S)=lq (bX f.pairs S (keys f.pairs)):=za pperm pnd
 refine ag ?_
 have eg:f.gpos' S=bl jW (.str 32) ((([0]:List Int).filter (gf (aP (jN f S) [()]))).map (cM (aP (jN f S) [()]))) ((aP (jN f S) [()]).map (ol [()] (fun _=>33) (jN f S))):=au q'
 have ea:EF (f.gpos' S) 44=some (.list ((aP (jN f S) [()]).map (ol [()] (fun _=>33) (jN f S)))):=by rw [eg];rfl
 refine ab ea ?_
 have hpe:=mT pperm
 refine (Bool.eq_false_or_eq_true (f.kp S).isEmpty).elim (fun hke=>?_) fun hke=>?_
 ·refine mf (ys:=[]) (by rw [Jw,hke];rfl) (cK ?_)
  refine fJ (b:=!(em kP fw (bX f.pairs S (keys f.pairs))).isEmpty) (by unfold em;rw [List.isEmpty_map,hpe.symm.trans hke];rfl) ?_
  exact fin _
 ·have eo:ol [()] (fun _=>33) (jN f S) 0=be 33 (.list [ee (DA (f.kp S))]):=by
   show be 33 (.list (jN f S ()))=_
   unfold jN;rw [hke];rfl
  refine mf (ys:=[be 33 (.list [ee (DA (f.kp S))])]) (by rw [Jw,hke];exact aw (·::[]) eo) (dT ?_)
  refine (lR (n:=15) (f.kp S) pnd plen).go ?_
  refine ag (cK ?_)
  refine ff (b:=!(em kP fw (bX f.pairs S (keys f.pairs))).isEmpty) (by unfold em;rw [List.isEmpty_map,hpe.symm.trans hke];rfl) ?_
  refine And.intro (by decide) (Az _ (And.intro rfl ?_))
  refine And.intro (by decide) (ir _ _ (And.intro rfl ?_))
  refine (lR (n:=15) (bX f.pairs S (keys f.pairs)) (eM pn) (aI lpp fok.pl)).go ?_
  refine ab (a:=false) (by rw [hU];exact vh (d:=10) (.list 9 _ (aB (xq _) b6)) (by decide)) ?_
  exact fin _
end
end Nz.Nc
namespace Nz
open PySem PyProof.Rows PySem.W
section
theorem BD (w:World) (s:Shared):segRun treeTable pp w 11 (some (.ref 6)) 1 1 s (blockOf (behindTheImports pp) Ce cc ⟨0,0,0,0⟩ [topFrame ⟨0,0,0,0⟩])=some (.next,s,cc,⟨0,0,0,0⟩):=by kernel_rfl
theorem HO:opening pp=plainProg pp.main.scope.names:=by kernel_rfl
theorem EI (s:Shared):fenceModules? pp s=some s:=by kernel_rfl
theorem Ig (w:World):((boot_heap w.params).isNs mainGlobals&&((Array.mk []:Array GenState).size==0),(boot_heap w.params).objs.size,(boot_heap w.params).nsMap mainGlobals "__annotations__")=(true,11,some (.ref 6)):=by kernel_rfl
theorem GF {p q:Program} {loose:List PySem.Str} {Xt:Shared→Bool} {Yf:Shared→Prop} {N:Nat} {H'0:Params→Heap} {gs0:Array GenState} {d'0:Drawn} {k'0:Nat} {m'0:Nat} {ann:Option Value} {M:Nat}
  (open_:∀ w:World,(fencedOpening treeTable p w N).map (fun s=>(s.heap,s.gens,s.drawn,s.toks))=some (H'0 w.params,gs0,d'0,k'0))
  (size:∀ w:World,((H'0 w.params).isNs mainGlobals&&gs0.size==0,(H'0 w.params).objs.size,(H'0 w.params).nsMap mainGlobals "__annotations__")=(true,m'0,ann)) (le:Nat.ble M N=true)
  (run:∀ (w:World) (os:OsState),∃ s₁,topRun treeTable p w m'0 ann M ⟨H'0 w.params,gs0,d'0,k'0,os⟩ (topStub p)=some s₁∧
   (staticsOk (importedModules p.main.body) (H'0 w.params) s₁.heap&&namesBound p s₁.heap&&gensDone s₁&&laidKept (H'0 w.params) s₁.heap)=true∧openSeen q loose (importedModules p.main.body) Xt true s₁=openGood q loose∧Yf s₁) :
  LeftO p q loose Xt Yf (fun _=>True) N:=fun w=>by
 obtain ⟨⟨h,gs,d,k,os⟩,e,e'⟩:=oK.mp (open_ w)
 obtain ⟨rfl,rfl,rfl,rfl⟩:h=H'0 w.params∧gs=gs0∧d=d'0∧k=k'0:=by simpa using e'
 obtain ⟨z1,z2,z3⟩:_∧_∧_:=by simpa only [Prod.mk.injEq] using size w
 obtain ⟨s₁,r,l1,l2,l3⟩:=run w os
 have r:=topRun_mono (N - M) _ _ _ _ r
 rw [Nat.add_sub_cancel' (Nat.le_of_ble_eq_true le)] at r
 have t:topFrom treeTable p w N ⟨H'0 w.params,gs,d,k,os⟩=some s₁:=by
  unfold topFrom
  dsimp only
  rw [z1,z2,z3,r]
  show (match staticsOk (importedModules p.main.body) (H'0 w.params) s₁.heap&&namesBound p s₁.heap&&gensDone s₁&&laidKept (H'0 w.params) s₁.heap with | true=>_ | false=>_)=_
  rw [l1]
 unfold openEnds
 rw [e]
 show (topFrom treeTable p w N _).map _=_
 rw [t]
 exact aw some (Prod.ext l2 (eq_true l3))
theorem Dr {h:Heap} {i:Nat} {o:Obj} (e:h.objs[i]? = some o) (l:ju o=true):h.get? i=some o:=by
 unfold Heap.get?
 rw [e]
 obtain ⟨c,d,dat,sl⟩:=o
 induction dat<;>first | rfl | exact bt l
theorem Ip {n toks j m:Nat} {g:Nat→Obj} {w:World} {os:OsState} {i:Nat} (h15:15≤i) (hn:n≤4000) (h:i < n) (l:ju (g i)=true):(SP n toks j m g w os).abs.heap.get? i=some (g i):=by
 refine Dr ?_ l
 have e:(SP n toks j m g w os).abs.heap.objs[i]? = ((List.range n).map fun i=>((Gn n (Ee j m g w.params) 12 1 0).get i).getD default)[i]?:=by
  show (absHeap (Gn n (Ee j m g w.params) 12 1 0) n {}).objs[i]? = _
  unfold absHeap BT.list
  simp
 rw [e,dL,List.getElem?_range h,Option.map_some,zN hn h,zX _ h15];rfl
theorem H2:LeftO pp qL rA P0 (fun s=>yT s.heap) (fun _=>True) 20000:=
 GF (M:=12+(1+10312)) (boot_open HO (by decide) EI) Ig (by decide) fun w os=>by
  obtain ⟨g,hr,⟨l1,l2,l3⟩,ho,hf,hb⟩:=Nu w os fun _=>default
  refine ⟨(SP 1384 2102 32 108 g w os).abs,go_top (Iy w os) (piece_block (BD w _) ?_),l1,l2,⟨_,g,am,l3,fun i h1 h2 l=>Ip h1 (by decide) h2 l,hf,hb⟩⟩
  rw [Ld];exact hr
end
section
noncomputable def wV (P:Params) (h:Heap) (v:Value):WData→Prop
 | .int i=>∃ t,v=.int i t
 | .list xs=>∃ a vs,v=.ref a∧h.get? a=some (seqObj "list" vs.toArray 0)∧WellAll P h vs xs
 | _=>True
theorem wv {P:Params} {h:Heap} {v:Value} {d:WData} (x:Well P h v d):wV P h v d:=by
 cases x with
 | int i t=>exact ⟨t,rfl⟩
 | list g w=>exact ⟨_,_,rfl,g,w⟩
 | _=>exact trivial
noncomputable def wA (P:Params) (h:Heap) (vs:List Value):List WData→Prop
 | []=>vs=[]
 | d::ds=>∃ v r,vs=v::r∧Well P h v d∧WellAll P h r ds
theorem wa {P:Params} {h:Heap} {vs:List Value} {ds:List WData} (x:WellAll P h vs ds):wA P h vs ds:=by
 cases x with
 | nil=>rfl
 | cons a r=>exact ⟨_,_,rfl,a,r⟩
theorem BR {P:Params} {W:Wd} {F:Addr→Prop} {h:Heap} {ns:List Int}:∀ {vs:List Value},WellAll P h vs (ns.map .int)→bR W F h (ns.map .int) vs:=by
 induction ns with
 | nil=>intro vs x;rw [show vs=[] from wa x];exact .nil
 | cons n ns ih=>
  intro vs x
  obtain ⟨v,r,e,a,x⟩:=wa x
  obtain ⟨t,e2⟩:=wv a
  rw [e,e2];exact .cons (.int n t) (ih x)
theorem B0 (args ds:List WData):cW.toRowW.claim.post args (.bool true) ds=true:=by kernel_rfl
theorem JO {R:WRecords} {ns:List Int} (h:(WTm.and (.not (.lt (.lit (.int 63)) (.len (.arg 0)))) (.lit (.bool true))).holds R { args:=[.list (ns.map .int)] }=true):ns.length≤SZ:=by
 refine aI (n:=ns.length) (m:=63) (Classical.byContradiction fun hn=>?_) (by decide)
 have h63:(63:Int) < (ns.length:Int):=by lia
 simp [WTm.holds,WTm.value,less?,Num.less?,h63] at h
theorem Gb {args:List WData} (h:cW.toRowW.claim.pre args=true):∃ ns:List Int,args=[.list (ns.map .int)]∧ns.length≤SZ:=by
 have p:=pre_splitW h
 obtain ⟨x,r,rfl,hx,hr⟩:=hasAllW_cons p.1
 obtain rfl:=hasAllW_nil hr
 obtain ⟨xs,rfl,hxs⟩:=hasW_list hx
 obtain ⟨ns,rfl⟩:=items_int hxs
 exact ⟨ns,rfl,JO p.2⟩
theorem EY {P:Params} {h:Heap} {vals:List Value} {ns:List Int} (x:WellAll P h vals [.list (ns.map .int)]):∃ l vs,vals=[.ref l]∧h.get? l=some (seqObj "list" vs.toArray 0)∧WellAll P h vs (ns.map .int):=by
 obtain ⟨v,r,e,a,x⟩:=wa x
 obtain ⟨l,vs,e2,g,w⟩:=wv a
 exact ⟨l,vs,by rw [e,e2,show r=[] from wa x],g,w⟩
theorem Pa {prog:Program} {w:World} {g:Nat→Obj} {h:Heap} {mg mb:PySem.Str→Option Value}:En (A7 prog w g h mg mb):=by
 intro f p b sc hf e
 obtain ⟨d,h2,h3⟩:=IQ hf e
 exact ⟨d,_,_,h2,h3⟩
theorem G5 {q:Program} {loose:List PySem.Str} {XP:(PySem.Str→Option Value)→Heap→Prop} {d:DefRec} (hd:d.name="law") :
  WalkO q loose XP (fun _ h=>yT h) cW.toRowW d [] fun f vs=>PySem.call f vs:=by
 intro w s'0 s₁ mg mb G Y a o pm cd doc dV kV ho hdat hcd hdf hm hgens args vals as hpre
 obtain ⟨ns,rfl,hlen⟩:=Gb hpre
 intro hlay hL hwell hsys
 obtain ⟨l,vs,rfl,hg,hvs⟩:=EY hwell
 obtain ⟨g,hw,fns,h346⟩:=Mm (prog:=PySem.Challenge.pw_nz0119_01) (w:=w) G.T.g G.T.b G.T.nolimit Y
 have ha:a=xU 78:=Value.ref.inj (az ((hd▸hm.symm).trans (fns (78,"law") (dU (by rfl)))))
 rw [ha]
 have law:=Nc.Nr ns
 unfold Nc.CN at law
 have run:=(MZ hw Pa 20).1.wp 78 [.list (ns.map .int)] none _ callerA (fun a=>Ln a∨a=l) s₁ [.ref l] none []
  (fun e s'=>GoodWG cW.toRowW.claim (classAt s'0.heap) (ExcName.means s'0.heap) [WData.list (ns.map .int)] s₁ (.error e) s') ⟨rfl,by decide,by decide⟩ (by decide) am (fun _=>.inl) (fun a h=>h.elim (fun e=>e▸h346) fun e=>e▸⟨_,hg⟩) (.cons (.list (n:=0) (.inr rfl) hg (by rw [ba];exact hlen) (BR hvs)) .nil) rfl cJ (fun a h=>nomatch h) law
 refine ax run (fun v s' z=>?_) am
 obtain ⟨t,r',F',⟨rfl,rfl⟩,af,rv,_,_⟩:=z
 cases rv
 exact ⟨.inl ⟨_,.bool true,[],rfl,fun _=>rfl,.bool true,B0 _ _,fun _=>⟨cJ,fun a h=>nomatch h⟩⟩,OldK.of_keep (fun b o e=>af.keep b o (fun h=>nomatch h) e),af.os,AllBare.of_eq (af.gens.trans hgens)⟩
theorem AM:chainsOk qL=true:=by kernel_rfl
theorem Dv:opensWell pp=true:=by
 have a:(opening pp).tameTopW=true:=by kernel_rfl
 have b:(!bearImports (behindTheImports pp))=true:=by kernel_rfl
 unfold opensWell
 rw [a,b];rfl
theorem E6:(frees cW.toRowW&&cW.toRowW.within.isEmpty)=true:=by kernel_rfl
theorem Mn:(chainsOk qL&&opensWell pp&&(frees cW.toRowW&&cW.toRowW.within.isEmpty))=true:=by rw [AM,Dv,E6];rfl
theorem B1:pp.tablesWhole=true:=by kernel_rfl
theorem HZ:pp.bare:=⟨rfl,rfl,rfl,rfl,rfl,B1⟩
theorem Oa:(defOf qL cW.name).map (fun x=>(x.2,kwWritten? x.1.params.kwonlyargs x.1.params.kw_defaults,x.1.name))=some ([],some [],Str.ofString "law"):=by kernel_rfl
theorem Ou:(defOf qL cW.name).map (fun x=>some (x.1.params,x.1.body,x.1.scope))=some (cW.prog.theDef cW.name):=by kernel_rfl
theorem MJ:∃ d,defOf qL cW.name=some (d,[])∧cW.prog.theDef cW.name=some (d.params,d.body,d.scope)∧kwWritten? d.params.kwonlyargs d.params.kw_defaults=some []∧d.name="law":=by
 obtain ⟨x,e,h⟩:=oK.mp Oa
 have h2:=Ou
 rw [e] at h2
 obtain ⟨d,l⟩:=x
 exact ⟨d,by rw [e];exact aw (fun y=>some (d,y)) (aw (·.1) h),(az h2).symm,aw (·.2.1) h,aw (·.2.2) h⟩
theorem xX:cW.toRowW.promised:=by w_witness2
theorem fin (OV:cW.wellSaid=true):cW.Holds:=by
 obtain ⟨d,d1,d2,d3,d4⟩:=MJ
 exact holds_open (q:=qL) (loose:=rA) (Xt:=P0) (XP:=fun _ _=>True) (YP:=fun _ h=>yT h) (N:=20000) H2 (fun _ _ e=>of_eq_true e) (fun _ _ _ x k=>x.keeps k) (fun _ _=>trivial) (fun _ _ _ _ _=>trivial) d1 d2 d3 (fun s e=>recFacts_of e) (by rfl) OV Mn HZ xX (G5 d4)
end
end Nz
theorem PySem.Challenge.cw_nz0119_01_holds : PySem.Challenge.rw_nz0119_01.Holds :=
  PySem.W.holds_law Nz.OV Nz.fin
