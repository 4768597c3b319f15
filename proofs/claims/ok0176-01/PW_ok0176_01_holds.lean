import PyProof.Rows.All
import Wide.All
import OpenK.AllK
import Wide.FinOn
import PySem.Challenge.RW_ok0176_01
set_option Elab.async false
set_option linter.unusedVariables false
set_option bootstrap.genMatcherCode false
open PySem PySem.W PyProof.Rows
namespace Mine
local macro_rules | `(tactic|o_head $_)=> `(tactic|assumption)
set_option maxRecDepth 100000 in
set_option maxHeartbeats 8000000 in
theorem hd(h:PySem.Challenge.rw_ok0176_01.row.Holds):PySem.Challenge.rw_ok0176_01.row.Holds:=by km_head
end Mine
set_option tactic.hygienic false
set_option genSizeOf false
open PySem PySem.W PyProof.Rows PySem.Calls PySem.Spec
open PySem PySem.W PyProof.Rows PySem.Calls PySem.Spec
set_option maxRecDepth 100000
namespace Mine
abbrev aa := @Nat.le_of_ble_eq_true
abbrev ab := @Option.casesOn
abbrev af := @Nat.le_trans
abbrev ag := @Bool.casesOn
abbrev ai := @List.length_map
abbrev aj := @of_decide_eq_true
abbrev ak := @wpAny_bind
abbrev ao := @cond_true
abbrev aq := @List.getElem?_eq_getElem
abbrev au := @Bool.and_eq_true_iff
abbrev av := @wpAny_pure
abbrev az := @if_neg
abbrev aA := @List.mem_cons
abbrev aB := @congrArg
abbrev aF := @if_pos
abbrev aG := @List.length_range
abbrev aM := @List.getD_eq_getElem?_getD
abbrev aN := @List.forall_mem_cons
abbrev aO := @List.casesOn
abbrev aT := @Nat.zero_add
abbrev aU := @Bool.and_eq_true
abbrev aW := @decide_eq_true
abbrev aX := @Nat.lt_of_le_of_lt
abbrev a8 := @List.getElem?_eq_some_iff
abbrev a9 := @decide_eq_true_eq
abbrev bf := @Nat.le_of_succ_le_succ
abbrev bn := @Nat.le_refl
abbrev bq := @Heap.get?_push_of_some
abbrev bt := @Heap.get?_push_size
abbrev bv := @List.map_cons
abbrev bw := @List.length_cons
abbrev bA := @List.getElem?_map
abbrev bC := @List.nodup_cons
abbrev bE := @List.append_assoc
abbrev bG := @List.append_nil
abbrev bH := @cond_false
abbrev bJ := @Int.toNat_natCast
abbrev bM := @List.length_eq_zero_iff
abbrev bN := @Nat.le_add_right
abbrev bO := @List.any_cons
abbrev bT := @Nat.lt_of_lt_of_le
abbrev bY := @List.getElem?_eq_none
abbrev b0 := @List.length_append
abbrev ca := @Nat.le_of_lt
abbrev cg := @List.any_eq_true
abbrev cj := @List.mem_singleton
abbrev cr := @Heap.lt_size
abbrev cu := @Option.map_eq_some_iff
abbrev cv := @List.mem_of_getElem?
abbrev cz := @decide_eq_false
abbrev cA := @Bool.false_ne_true
abbrev cG := @Nat.le_of_not_lt
abbrev cH := @List.not_mem_nil
abbrev cM := @List.length_replicate
abbrev cP := @List.length_set
abbrev cV := @Prod.mk.inj
abbrev c6 := @Nat.le_of_eq
abbrev c7 := @Int.ofNat_lt
abbrev db := @List.mem_range
abbrev dd := @List.nil_append
abbrev de := @List.lookup_cons
abbrev dg := @List.all_eq_true
abbrev dq := @Nat.ne_of_lt
abbrev dw := @List.map_nil
theorem Nn{L i:Nat}(h:i<L):L+1-(i+1)<L+1-i:=Nat.sub_lt_sub_left (Nat.lt_succ_of_lt h) (Nat.lt_succ_self i)
theorem Wc{n j:Nat}(h:j<n):n-1-j<n:=aX (Nat.sub_le ..) (Nat.sub_lt (Nat.zero_lt_of_lt h) Nat.one_pos)
theorem Nm{i n:Nat}(hn:n≤1000000)(h:i<n):0≤(i:Int)∧(i:Int)<(n:Int)∧(i:Int)<9223372036854775808:=⟨Int.natCast_nonneg i,c7.mpr h,c7.mpr (bT h (af hn (by decide)))⟩
theorem XC{x:Int}{n:Nat}(hn:n≤1000000)(h0:0≤x)(h:x<(n:Int)):0≤x∧x<(n:Int)∧x<9223372036854775808:=⟨h0,h,Int.lt_of_lt_of_le h (Int.le_trans (Int.ofNat_le.mpr hn) (by decide))⟩
theorem SK{x:Int}{n:Nat}(hn:n≤1000000)(h0:0≤x)(h:x<(n:Int)):(decide (0≤x)&&(decide (x<(n:Int))&&decide (x<9223372036854775808)))=true:=by
 have:=XC hn h0 h
 rw[aW this.1,aW this.2.1,aW this.2.2];rfl
theorem XB{L j i:Nat}(h:j<L)(h1:L-j≤i)(h2:i=L-1-j):False:=by
 rw[h2,Nat.sub_right_comm]at h1
 exact Nat.not_lt.mpr h1 (Nat.sub_lt (Nat.sub_pos_of_lt h) Nat.one_pos)
theorem XA{L j i:Nat}(h:i<L-(j+1)):i<L-j:=bT h (Nat.sub_le_sub_left (Nat.le_succ j) L)
theorem Xz{L j i:Nat}(h:L-j≤i):L-(j+1)≤i:=af (Nat.sub_le_sub_left (Nat.le_succ j) L) h
theorem Nl{f:Nat}(h:0<f):f=f-1+1:=(Nat.sub_add_cancel h).symm
theorem Wb{f:Nat}(h:2≤f):f=f-2+1+1:=(Nat.sub_add_cancel h).symm
theorem Wa{f i:Nat}(h: ¬i<f):i=f+(i-f):=(Nat.add_sub_cancel' (Nat.not_lt.mp h)).symm
theorem RC{x:Int}{n:Nat}(h0:0≤x)(h:x<(n:Int)):x.toNat<n:=(Int.toNat_lt h0).mpr h
theorem Xy{n j:Nat}(h:j<n):(n:Int)-1-(j:Int)=((n-1-j:Nat):Int):=by
 rw[Int.ofNat_sub (Nat.le_sub_one_of_lt h),Int.ofNat_sub (Nat.zero_lt_of_lt h)];rfl
theorem Xx{n:Nat}:((n:Int)-1- -1).toNat=n:=by rw[Int.sub_neg,Int.sub_add_cancel];rfl
theorem V9{s e i:Nat}(h:i<e-s):s+i<e:=Nat.add_comm s i▸Nat.add_lt_of_lt_sub h
theorem Xw{e:Nat}(h:0<e):(e:Int)-1=((e-1:Nat):Int):=(Int.ofNat_sub h).symm
theorem V8{a b:Int}(h:a≤b):b-a=((b-a).toNat:Int):=(Int.toNat_of_nonneg (Int.sub_nonneg_of_le h)).symm
theorem V7{n m k:Nat}{A:Nat}(h:m≤n)(x:A+n<k):A+m<k:=aX (Nat.add_le_add_left h A) x
theorem Xv{n m A:Nat}(h:m≤n)(x:A+10*n<9000):A+10*m<9000:=V7 (Nat.mul_le_mul_left 10 h) x
theorem V6{n A:Nat}{d k:Nat}(hd:d≤10)(x:A+10*(n+1)<k):A+d+10*n<k:=by
 rw[Nat.add_right_comm];exact aX (Nat.add_le_add_left hd _) (by rw[Nat.mul_add,←Nat.add_assoc]at x;exact x)
theorem V5{n A k:Nat}(x:A+(n+1)<k):A+1+n<k:=by rw[Nat.add_right_comm];exact x
theorem Xu{s e:Nat}:((e:Int)-(s:Int)).toNat=e-s:=Int.toNat_sub e s
theorem Xs{a:Int}(h: ¬a<0):((a.toNat:Nat):Int)=a:=Int.toNat_of_nonneg (Int.not_lt.mp h)
theorem SJ{m k:Nat}(h:k≤m)(hk:0<k):m-k<m:=Nat.sub_lt (bT hk h) hk
theorem V4{m k f:Nat}(h:k≤m)(hf:m<f+1)(hk:0<k):m-k<f:=bT (SJ h hk) (Nat.le_of_lt_succ hf)
theorem Xr{m k:Nat}(h:k≤m):m=m-k+k:=(Nat.sub_add_cancel h).symm
theorem V3{m n k:Nat}(h:k≤m)(x:n≤m-k):n+k≤m:=(Nat.le_sub_iff_add_le h).mp x
theorem Xq{th:Nat}(h:th≤64):Int.natAbs 1<18446744073709551616∧(0:Int)≤(th:Int)∧(th:Int)≤1000000:=⟨by decide,Int.natCast_nonneg th,Int.ofNat_le.mpr (af h (by decide))⟩
theorem RB{x:Int}(h:0<x)(y:x<18446744073709551616):(decide (0<x)&&decide (x<18446744073709551616))=true:=by rw[aW h,aW y];rfl
theorem Xp{m f:Nat}(h:m+1<f):f=f-1+1:=Nl (Nat.zero_lt_of_lt h)
theorem IM{i L:Nat}(h:i≤L)(x: ¬i<L):i=L:=Nat.le_antisymm h (Nat.not_lt.mp x)
theorem Xo{a:Int}(h:a<0): -a=(a.natAbs:Int):=(Int.ofNat_natAbs_of_nonpos (Int.le_of_lt h)).symm
theorem Xn{L j i:Nat}{p:Prop}(x:i=L-1-j∧p)(h:j<L)(h1:L-j≤i):False:=XB h h1 x.1
theorem MR{e:Int}{k:Nat}(h:0≤e)(g:e<(k:Int)): ∃n:Nat,n<k∧e=(n:Int):=(Int.eq_ofNat_of_zero_le h).elim fun n q=>⟨n,c7.mp (q▸g),q⟩
theorem V2{c n k:Nat}:c+(n+k)=c+k+n:=by rw[Nat.add_assoc c k n,Nat.add_comm k n]
theorem SI{y:Int}(h:0≤y)(g:y<18446744073709551616):decide (y.natAbs<18446744073709551616)=true:=
 (Int.eq_ofNat_of_zero_le h).elim fun n q=>by subst q;exact aW (c7.mp g)
theorem wm{α:Type}{M:Model}{A:Around}{E:Value→Shared→Prop}{s:Shared}{t:Sem α}{Q Q':α→Shared→Prop}(h:wpAny M A t Q E s)(g: ∀a s,Q a s→Q' a s):wpAny M A t Q' E s:=wpAny_mono h g fun Y Y x=>x
theorem Gx{α:Type}{M:Model}{A:Around}{E:Value→Shared→Prop}{s:Shared}{c c':Sem α}{Q:α→Shared→Prop}(h:c=c')(g:wpAny M A c' Q E s):wpAny M A c Q E s:=h▸g
theorem pb{α β:Type}{M:Model}{A:Around}{E:Value→Shared→Prop}{s:Shared}{a:α}{f:α→Sem β}{Q:β→Shared→Prop}(h:wpAny M A (f a) Q E s):wpAny M A (pure a >>= f) Q E s:=ak (av h)
theorem bb{α β γ:Type}{M:Model}{A:Around}{E:Value→Shared→Prop}{s:Shared}{m:Sem γ}{g:γ→Sem α}{f:α→Sem β}{Q:β→Shared→Prop}(h:wpAny M A m (fun a s'=>wpAny M A (g a) (fun b s'=>wpAny M A (f b) Q E s') E s') E s):wpAny M A ((m >>= g) >>= f) Q E s:=ak (ak h)
theorem hb{α β:Type}{M:Model}{A:Around}{E:Value→Shared→Prop}{s:Shared}{vs:List Value}{m:Sem α}{f:α→Sem β}{Q:β→Shared→Prop}(h:wpAny M A m (fun a s'=>wpAny M A (f a) Q E s') E s):wpAny M A (holding vs m >>= f) Q E s:=ak (wpAny_holding h)
inductive MV where
 |none
 |bool (b:Bool)
 |int (i:Int)
 |str (s:Str)
 |tup (ts:List MV)
 |list (ts:List MV)
 |range (lo hi st:Int)
 |set (is:List Int)
 |dict (n:Nat) (ks:List Int) (ts:List MV)
 |inst (C:Addr) (ns:List Str) (ts:List MV)
 |fn (g:Int→Int→Option Int)
inductive Slot where
 |aw (t:MV)
 |own (t:MV)
 |cK (t:MV)
 |ro (t:MV)
 |me (C:Addr)
inductive fG where
 |v (x:Str)
 |a (x:Str)
 deriving DecidableEq
noncomputable abbrev St:=List (fG×Slot)
noncomputable def St.get:St→fG→Option Slot
 | [],_=>none
 |p::r,x=>if x=p.1 then some p.2 else St.get r x
noncomputable def St.put:St→fG→Slot→St
 | [],x,s=>[(x,s)]
 |p::r,x,s=>if x=p.1 then(p.1,s)::r else p::St.put r x s
noncomputable abbrev aH:=Option (MV×Option MV)
inductive c8 where
 |aw|own|lend
structure ej where
 aY:List c8
 own:Bool:=false
 run:List MV→(MV→Option MV→aH)→aH
structure Cx where
 sc:Scope
 wf:Nat
 glob:Str→Option MV
 fn:Str→Option ej
 pA:Addr→Str→Option ej
 attr:Addr→Str→Bool
 own:Bool:=false
 sd:Bool:=true
noncomputable abbrev KT:=Bool→MV→St→aH
noncomputable abbrev RT:=Cx→Expr→St→KT→aH
noncomputable def iI(a:Int):Bool:=decide (a.natAbs<18446744073709551616)
noncomputable def aQ(n:Nat):Bool:=decide (n≤1000000)
noncomputable def gI(b:Int):Bool:=decide (0<b)&&decide (b<18446744073709551616)
noncomputable def qx(a b:Int):Bool:=(decide (0≤a)&&decide (a<2 ^ 200))&&(decide (0≤b)&&decide (b≤64))
noncomputable def qw(a b:Int):Bool:=iI a&&(decide (0≤b)&&decide (b≤1000000))
noncomputable def ints?:List MV→Option (List Int)
 | []=>some []
 | .int i::r=>(ints? r).map (i:: ·)
 |_::_=>none
theorem Sn{α:Type}{a:α}{P:Prop}(h:some a=(none:Option α)):P:=nomatch h
theorem nn{α:Type}{a:α}{P:Prop}(h:(none:Option α)=some a):P:=nomatch h
theorem ew{P:Prop}(h:false=true):P:=nomatch h
theorem Gy{P:Prop}(h:true=false):P:=nomatch h
theorem jZ{α:Type}{a:α}{P:Prop}(h:a∈([]:List α)):P:=nomatch h
theorem b8{α:Type}{a b:α}(h:some a=some b):a=b:=Option.some.inj h
theorem dZ{α:Type}{x:Option α}{a b:α}(h:x=some a)(g:x=some b):a=b:=Option.some.inj (h.symm.trans g)
theorem fU{α:Type}{x:Option α}{b:α}{P:Prop}(h:x=none)(g:x=some b):P:=nn (h.symm.trans g)
@[elab_as_elim] theorem ae{α:Sort _}{a b:α}{P:α→Prop}(h:a=b)(x:P b):P a:=h▸x
@[elab_as_elim] theorem ft{α:Sort _}{a b:α}{P:α→Prop}(h:b=a)(x:P b):P a:=h▸x
theorem eM{a b:Addr}(h:Value.ref a= .ref b):a=b:=Value.ref.inj h
noncomputable def a0{α β:Type}(l:List α)(k:Option β):Option β:=match l with
 | []=>k
 |_::_=>none
theorem cm{α β:Type}{l:List α}{k:Option β}{r:β}(h:a0 l k=some r):l=[]∧k=some r:=by
 induction l using aO with
 |nil=>exact⟨rfl,h⟩
 |cons _ _=>exact nn h
noncomputable def aC{α β:Type}(l:List α)(k:α→List α→Option β):Option β:=match l with
 | []=>none
 |a::r=>k a r
theorem bL{α β:Type}{l:List α}{k:α→List α→Option β}{r:β}(h:aC l k=some r): ∃a t,l=a::t∧k a t=some r:=by
 induction l using aO with
 |nil=>exact nn h
 |cons a t=>exact⟨a,t,rfl,h⟩
theorem cL{α β:Type}{x:Option α}{f:α→Option β}{r:β}(h:x.bind f=some r): ∃a,x=some a∧f a=some r:=by
 induction x using ab with
 |none=>exact nn h
 |some a=>exact⟨a,rfl,h⟩
noncomputable def dI{β:Type}(t:MV)(k:Int→Option β):Option β:=match t with| .int i=>k i|_=>none
noncomputable def dB{β:Type}(t:MV)(k:Bool→Option β):Option β:=match t with| .bool i=>k i|_=>none
noncomputable def dL{β:Type}(t:MV)(k:List MV→Option β):Option β:=match t with| .list i=>k i|_=>none
noncomputable def dT{β:Type}(t:MV)(k:List MV→Option β):Option β:=match t with| .tup i=>k i|_=>none
theorem EG{β:Type}{t:MV}{k:List MV→Option β}{r:β}(h:dT t k=some r): ∃i,t= .tup i∧k i=some r:=by
 induction t using MV.casesOn with
 |tup i=>exact⟨i,rfl,h⟩
 |_=>exact nn h
theorem dE{β:Type}{t:MV}{k:Int→Option β}{r:β}(h:dI t k=some r): ∃i,t= .int i∧k i=some r:=by
 induction t using MV.casesOn with
 |int i=>exact⟨i,rfl,h⟩
 |_=>exact nn h
theorem nQ{β:Type}{t:MV}{k:Bool→Option β}{r:β}(h:dB t k=some r): ∃i,t= .bool i∧k i=some r:=by
 induction t using MV.casesOn with
 |bool i=>exact⟨i,rfl,h⟩
 |_=>exact nn h
theorem ju{β:Type}{t:MV}{k:List MV→Option β}{r:β}(h:dL t k=some r): ∃i,t= .list i∧k i=some r:=by
 induction t using MV.casesOn with
 |list i=>exact⟨i,rfl,h⟩
 |_=>exact nn h
noncomputable def MU(x:aH)(k:MV→MV→aH):aH:=match x with
 |some q=>(match q.2 with|some t=>k q.1 t|none=>none)
 |none=>none
noncomputable def Nt(x:aH)(k:MV→aH):aH:=match x with
 |some q=>(match q.2 with|some _=>none|none=>k q.1)
 |none=>none
theorem rl{x:aH}{k:MV→MV→aH}{o:MV×Option MV}(h:MU x k=some o): ∃r t,x=some (r,some t)∧k r t=some o:=by
 induction x using ab with
 |none=>exact nn h
 |some q=>
  obtain⟨r,t⟩:=q
  induction t using ab with
  |none=>exact nn h
  |some t=>exact⟨r,t,rfl,h⟩
theorem rq{x:aH}{k:MV→aH}{o:MV×Option MV}(h:Nt x k=some o): ∃r,x=some (r,none)∧k r=some o:=by
 induction x using ab with
 |none=>exact nn h
 |some q=>
  obtain⟨r,t⟩:=q
  induction t using ab with
  |some t=>exact nn h
  |none=>exact⟨r,rfl,h⟩
noncomputable def qy{β:Type}(e:Expr)(k:Str→β)(d:β):β:=if h:e.ctorIdx=23 then Expr.Name.elim (motive_1:=fun Y=>β) e h (fun x Y=>k x)else d
theorem iA{β:Type}{e:Expr}{k:Str→β}{d r:β}(h:qy e k d=r):(∃x p,e= .Name x p∧k x=r)∨(e.ctorIdx≠23∧d=r):=
 if g:e.ctorIdx=23 then .inl (Expr.Name.elim (motive_1:=fun e=> ∀g:e.ctorIdx=23,Expr.Name.elim e g (fun x Y=>k x)=r→ ∃x p,e= .Name x p∧k x=r) e g (fun x p Y h=>⟨x,p,rfl,h⟩) g ((dif_pos g).symm.trans h))
 else .inr ⟨g,(dif_neg g).symm.trans h⟩
noncomputable abbrev nr{β:Type}(e:Expr)(k:Str→Option β):Option β:=qy e k none
theorem eZ{β:Type}{e:Expr}{k:Str→Option β}{r:β}(h:nr e k=some r): ∃x p,e= .Name x p∧k x=some r:=
 (iA h).elim id fun q=>nn q.2
noncomputable def oC{β:Type}(e:Expr)(k:Expr→List Expr→List Keyword→β)(d:β):β:=if h:e.ctorIdx=16 then Expr.Call.elim (motive_1:=fun Y=>β) e h (fun f as ks Y=>k f as ks)else d
theorem xM{β:Type}{e:Expr}{k:Expr→List Expr→List Keyword→β}{d r:β}(h:oC e k d=r):(∃f as ks p,e= .Call f as ks p∧k f as ks=r)∨(e.ctorIdx≠16∧d=r):=
 if g:e.ctorIdx=16 then .inl (Expr.Call.elim (motive_1:=fun e=> ∀g:e.ctorIdx=16,Expr.Call.elim e g (fun f as ks Y=>k f as ks)=r→ ∃f as ks p,e= .Call f as ks p∧k f as ks=r) e g (fun f as ks p Y h=>⟨f,as,ks,p,rfl,h⟩) g ((dif_pos g).symm.trans h))
 else .inr ⟨g,(dif_neg g).symm.trans h⟩
noncomputable abbrev JU{β:Type}(e:Expr)(k:Expr→List Expr→List Keyword→Option β):Option β:=oC e k none
theorem CP{β:Type}{e:Expr}{k:Expr→List Expr→List Keyword→Option β}{r:β}(h:JU e k=some r): ∃f as ks p,e= .Call f as ks p∧k f as ks=some r:=
 (xM h).elim id fun q=>nn q.2
noncomputable def sL{β:Type}(e:Expr)(k:Expr→Str→Pos→β)(d:β):β:=if h:e.ctorIdx=20 then Expr.Attribute.elim (motive_1:=fun Y=>β) e h (fun o a p=>k o a p)else d
theorem tS{β:Type}{e:Expr}{k:Expr→Str→Pos→β}{d r:β}(h:sL e k d=r):(∃o a p,e= .Attribute o a p∧k o a p=r)∨(e.ctorIdx≠20∧d=r):=
 if g:e.ctorIdx=20 then .inl (Expr.Attribute.elim (motive_1:=fun e=> ∀g:e.ctorIdx=20,Expr.Attribute.elim e g (fun o a p=>k o a p)=r→ ∃o a p,e= .Attribute o a p∧k o a p=r) e g (fun o a p Y h=>⟨o,a,p,rfl,h⟩) g ((dif_pos g).symm.trans h))
 else .inr ⟨g,(dif_neg g).symm.trans h⟩
noncomputable abbrev kY{β:Type}(e:Expr)(k:Expr→Str→Pos→Option β):Option β:=sL e k none
theorem gV{β:Type}{e:Expr}{k:Expr→Str→Pos→Option β}{r:β}(h:kY e k=some r): ∃o a p,e= .Attribute o a p∧k o a p=some r:=
 (tS h).elim id fun q=>nn q.2
noncomputable def sK{β:Type}(e:Expr)(k:Expr→Expr→β)(d:β):β:=if h:e.ctorIdx=21 then Expr.Subscript.elim (motive_1:=fun Y=>β) e h (fun a b Y=>k a b)else d
theorem tR{β:Type}{e:Expr}{k:Expr→Expr→β}{d r:β}(h:sK e k d=r):(∃a b p,e= .Subscript a b p∧k a b=r)∨(e.ctorIdx≠21∧d=r):=
 if g:e.ctorIdx=21 then .inl (Expr.Subscript.elim (motive_1:=fun e=> ∀g:e.ctorIdx=21,Expr.Subscript.elim e g (fun a b Y=>k a b)=r→ ∃a b p,e= .Subscript a b p∧k a b=r) e g (fun a b p Y h=>⟨a,b,p,rfl,h⟩) g ((dif_pos g).symm.trans h))
 else .inr ⟨g,(dif_neg g).symm.trans h⟩
noncomputable def vL{β:Type}(e:Expr)(k:List Expr→β)(d:β):β:=if h:e.ctorIdx=25 then Expr.Tuple.elim (motive_1:=fun Y=>β) e h (fun l Y Y=>k l)else d
theorem uM{β:Type}{e:Expr}{k:List Expr→β}{d r:β}(h:vL e k d=r):(∃l c p,e= .Tuple l c p∧k l=r)∨(e.ctorIdx≠25∧d=r):=
 if g:e.ctorIdx=25 then .inl (Expr.Tuple.elim (motive_1:=fun e=> ∀g:e.ctorIdx=25,Expr.Tuple.elim e g (fun l Y Y=>k l)=r→ ∃l c p,e= .Tuple l c p∧k l=r) e g (fun l c p Y h=>⟨l,c,p,rfl,h⟩) g ((dif_pos g).symm.trans h))
 else .inr ⟨g,(dif_neg g).symm.trans h⟩
noncomputable abbrev zJ{β:Type}(e:Expr)(k:List Expr→Option β):Option β:=vL e k none
theorem sU{β:Type}{e:Expr}{k:List Expr→Option β}{r:β}(h:zJ e k=some r): ∃l c p,e= .Tuple l c p∧k l=some r:=
 (uM h).elim id fun q=>nn q.2
noncomputable def xL{β:Type}(e:Expr)(k:UnaryOp→Expr→β)(d:β):β:=if h:e.ctorIdx=3 then Expr.UnaryOp.elim (motive_1:=fun Y=>β) e h (fun o a Y=>k o a)else d
theorem yG{β:Type}{e:Expr}{k:UnaryOp→Expr→β}{d r:β}(h:xL e k d=r):(∃o a p,e= .UnaryOp o a p∧k o a=r)∨(e.ctorIdx≠3∧d=r):=
 if g:e.ctorIdx=3 then .inl (Expr.UnaryOp.elim (motive_1:=fun e=> ∀g:e.ctorIdx=3,Expr.UnaryOp.elim e g (fun o a Y=>k o a)=r→ ∃o a p,e= .UnaryOp o a p∧k o a=r) e g (fun o a p Y h=>⟨o,a,p,rfl,h⟩) g ((dif_pos g).symm.trans h))
 else .inr ⟨g,(dif_neg g).symm.trans h⟩
noncomputable def v5{β:Type}(e:Expr)(k:BoolOp→List Expr→β)(d:β):β:=if h:e.ctorIdx=0 then Expr.BoolOp.elim (motive_1:=fun Y=>β) e h (fun o l Y=>k o l)else d
theorem zW{β:Type}{e:Expr}{k:BoolOp→List Expr→β}{d r:β}(h:v5 e k d=r):(∃o l p,e= .BoolOp o l p∧k o l=r)∨(e.ctorIdx≠0∧d=r):=
 if g:e.ctorIdx=0 then .inl (Expr.BoolOp.elim (motive_1:=fun e=> ∀g:e.ctorIdx=0,Expr.BoolOp.elim e g (fun o l Y=>k o l)=r→ ∃o l p,e= .BoolOp o l p∧k o l=r) e g (fun o l p Y h=>⟨o,l,p,rfl,h⟩) g ((dif_pos g).symm.trans h))
 else .inr ⟨g,(dif_neg g).symm.trans h⟩
noncomputable def kj{β:Type}(e:Expr)(k:Expr→List CmpOp→List Expr→β)(d:β):β:=if h:e.ctorIdx=15 then Expr.Compare.elim (motive_1:=fun Y=>β) e h (fun a o l Y=>k a o l)else d
theorem yH{β:Type}{e:Expr}{k:Expr→List CmpOp→List Expr→β}{d r:β}(h:kj e k d=r):(∃a o l p,e= .Compare a o l p∧k a o l=r)∨(e.ctorIdx≠15∧d=r):=
 if g:e.ctorIdx=15 then .inl (Expr.Compare.elim (motive_1:=fun e=> ∀g:e.ctorIdx=15,Expr.Compare.elim e g (fun a o l Y=>k a o l)=r→ ∃a o l p,e= .Compare a o l p∧k a o l=r) e g (fun a o l p Y h=>⟨a,o,l,p,rfl,h⟩) g ((dif_pos g).symm.trans h))
 else .inr ⟨g,(dif_neg g).symm.trans h⟩
noncomputable def Ek{β:Type}(e:Expr)(k:Option Expr→Option Expr→Option Expr→β)(d:β):β:=if h:e.ctorIdx=26 then Expr.Slice.elim (motive_1:=fun Y=>β) e h (fun a b c Y=>k a b c)else d
theorem Cn{β:Type}{e:Expr}{k:Option Expr→Option Expr→Option Expr→β}{d r:β}(h:Ek e k d=r):(∃a b c p,e= .Slice a b c p∧k a b c=r)∨(e.ctorIdx≠26∧d=r):=
 if g:e.ctorIdx=26 then .inl (Expr.Slice.elim (motive_1:=fun e=> ∀g:e.ctorIdx=26,Expr.Slice.elim e g (fun a b c Y=>k a b c)=r→ ∃a b c p,e= .Slice a b c p∧k a b c=r) e g (fun a b c p Y h=>⟨a,b,c,p,rfl,h⟩) g ((dif_pos g).symm.trans h))
 else .inr ⟨g,(dif_neg g).symm.trans h⟩
noncomputable def i2(a b:MV)(f:Int→Int→aH):aH:=dI a fun x=>dI b fun y=>f x y
theorem zD{a b:MV}{f:Int→Int→aH}{r:MV×Option MV}(h:i2 a b f=some r): ∃x y,a= .int x∧b= .int y∧f x y=some r:=by
 obtain⟨x,p,h⟩:=dE h
 obtain⟨y,q,h⟩:=dE h
 exact⟨x,y,p,q,h⟩
noncomputable def BM{β:Type}(t:MV)(k:Str→Option β):Option β:=match t with| .str s=>k s|_=>none
theorem oX{β:Type}{t:MV}{k:Str→Option β}{r:β}(h:BM t k=some r): ∃i,t= .str i∧k i=some r:=by
 induction t using MV.casesOn with
 |str i=>exact⟨i,rfl,h⟩
 |_=>exact nn h
noncomputable def VG(a b:MV)(k:Bool→MV→aH):aH:=match a with
 | .int x=>dI b fun y=>k false (.int (x+y))
 | .list x=>dL b fun y=>bif aQ (x.length+y.length)then k true (.list (x++y))else none
 | .str x=>BM b fun y=>bif aQ (x.length+y.length)then k false (.str (x++y))else none
 |_=>none
noncomputable def Ua(a b:MV)(k:Bool→MV→aH):aH:=dI b fun y=>match a with
 | .int x=>bif iI x||iI y then k false (.int (x*y))else none
 | .list ts=>aC ts fun t r=>a0 r <| bif decide (0≤y)&&decide (y≤1000000)then k true (.list (List.replicate y.toNat t))else none
 |_=>none
noncomputable def m5(op:Operator)(a b:MV)(k:Bool→MV→aH):aH:=
 match op with
 | .Add=>VG a b k
 | .Sub=>i2 a b fun x y=>k false (.int (x-y))
 | .Mult=>Ua a b k
 | .FloorDiv=>i2 a b fun x y=>bif gI y then k false (.int (x.fdiv y))else none
 | .Mod=>i2 a b fun x y=>bif gI y then k false (.int (x.fmod y))else none
 | .Pow=>i2 a b fun x y=>bif qx x y then k false (.int (x ^ y.toNat))else none
 | .BitAnd=>i2 a b fun x y=>k false (.int (Builtin.bitAnd x y))
 | .BitOr=>i2 a b fun x y=>k false (.int (Builtin.bitOr x y))
 | .LShift=>i2 a b fun x y=>bif qw x y then k false (.int (x*2 ^ y.toNat))else none
 | .RShift=>i2 a b fun x y=>bif decide (0≤y)then k false (.int (x.fdiv (2 ^ y.toNat)))else none
 |_=>none
noncomputable def MS(op:UnaryOp)(a:MV)(k:MV→aH):aH:=
 match op with
 | .USub=>dI a fun x=>k (.int (-x))
 | .Invert=>dI a fun x=>k (.int (Builtin.bitNot x))
 |_=>none
noncomputable def iW:MV→Option Bool
 | .none=>some false
 | .bool b=>some b
 | .int i=>some (i != 0)
 | .list ts=>some (!ts.isEmpty)
 |_=>none
noncomputable def NN(xs ys:List MV):Option Bool:=match xs with
 | []=>some ys.isEmpty
 |x::xs=>(match ys with
  | []=>some false
  |y::ys=>(ints? (x::xs)).bind fun i=>(ints? (y::ys)).map fun j=>decide (i=j))
noncomputable def isNone:MV→Bool
 | .none=>true
 |_=>false
noncomputable def SW(x c:MV):Option Bool:=dI x fun i=>match c with
 | .list ts=>(ints? ts).map fun js=>decide (i∈js)
 | .set is=>some (decide (i∈is))
 | .dict _ ks _=>some (decide (i∈ks))
 |_=>none
noncomputable def TC(a b:MV)(f:Bool→Bool)(k:Bool→aH):aH:=match a with
 | .int x=>dI b fun y=>k (f (x==y))
 | .str x=>BM b fun y=>k (f (x==y))
 | .list x=>dL b fun y=>(NN x y).bind fun b=>k (f b)
 |_=>none
noncomputable def eN(op:CmpOp)(a b:MV)(k:Bool→aH):aH:=
 match op with
 | .Eq=>TC a b id k
 | .NotEq=>TC a b not k
 | .Lt=>i2 a b fun x y=>k (decide (x<y))
 | .LtE=>i2 a b fun x y=>k (decide (x≤y))
 | .Gt=>i2 a b fun x y=>k (decide (x>y))
 | .GtE=>i2 a b fun x y=>k (decide (x≥y))
 | .Is=>(match b with| .none=>k (isNone a)|_=>none)
 | .In=>(SW a b).bind k
 | .NotIn=>(SW a b).bind fun b=>k (!b)
 |_=>none
noncomputable def xe:List Int→List MV→Int→Option MV
 |k::ks,t::ts,i=>if i=k then some t else xe ks ts i
 |_,_,_=>none
noncomputable def gZ:List Int→List MV→Int→MV→List Int×List MV
 |k::ks,t::ts,i,u=>if i=k then(k::ks,u::ts)else let r:=gZ ks ts i u;(k::r.1,t::r.2)
 |_,_,i,u=>([i],[u])
noncomputable def pC(i:Int)(n:Nat):Bool:=decide (0≤i)&&(decide (i<(n:Int))&&decide (i<9223372036854775808))
noncomputable def Om(ts:List MV)(i:Int)(k:MV→aH):aH:=bif pC i ts.length then(ts[i.toNat]?).bind k else none
noncomputable def ea(c i:MV)(k:MV→aH):aH:=dI i fun i=>match c with
 | .list ts=>Om ts i k
 | .tup ts=>Om ts i k
 | .dict _ ks ts=>(xe ks ts i).bind k
 |_=>none
noncomputable def G4(c i t:MV)(k:MV→aH):aH:=dI i fun i=>match c with
 | .list ts=>bif pC i ts.length then k (.list (ts.set i.toNat t))else none
 | .dict n ks ts=>bif aQ n then k (.dict (n+1) (gZ ks ts i t).1 (gZ ks ts i t).2)else none
 |_=>none
noncomputable def Ed(c:MV)(lo hi:Option MV)(k:Bool→MV→aH):aH:=match c with
 | .str s=>bif aQ s.length then match lo with
     |none=>hi.bind fun h=>dI h fun j=>k false (.str (Txt.slice s none (some j)))
     |some l=>dI l fun i=>match hi with
      |none=>k false (.str (Txt.slice s (some i) none))
      |some h=>dI h fun j=>k false (.str (Txt.slice s (some i) (some j)))
   else none
 | .list ts=>(match lo with
   |none=>hi.bind fun h=>dI h fun j=>bif decide (0≤j)&&aQ ts.length then k true (.list (ts.take j.toNat))else none
   |some _=>none)
 |_=>none
noncomputable def zx(lo hi st:Int):Option (List MV):=
 if st=1 then some ((List.range (hi-lo).toNat).map fun i:Nat=> .int (lo+i))
 else if st= -1 then some ((List.range (lo-hi).toNat).map fun i:Nat=> .int (lo-i))
 else none
noncomputable def d7:MV→Option (List MV)
 | .list ts=>some ts
 | .tup ts=>some ts
 | .range lo hi st=>zx lo hi st
 |_=>none
noncomputable def eu(a:Int):Bool:=decide (-4611686018427387904≤a)&&decide (a<4611686018427387904)
noncomputable def jR(i:Int):List Int→List Int
 | []=>[i]
 |j::r=>if i≤j then i::j::r else j::jR i r
noncomputable def sortI:List Int→List Int
 | []=>[]
 |i::r=>jR i (sortI r)
noncomputable def pE(f:Str)(s:String):Bool:=decide (f=Str.ofString s)
noncomputable def c9:List Str:=[Str.ofString "len",Str.ofString "int",Str.ofString "abs",Str.ofString "sum",Str.ofString "min",Str.ofString "range",Str.ofString "list",Str.ofString "set",Str.ofString "sorted"]
noncomputable def Oh(as:List MV)(k:Bool→MV→aH):aH:=aC as fun a r=>a0 r <| match a with
 | .list ts=>k false (.int ts.length)
 | .tup ts=>bif aQ ts.length then k false (.int ts.length)else none
 |_=>none
noncomputable def Ol(as:List MV)(k:Bool→MV→aH):aH:=aC as fun a r=>a0 r <| match a with
 | .int i=>k false (.int i)
 | .bool b=>k false (.int (bif b then 1 else 0))
 |_=>none
noncomputable def OS(as:List MV)(k:Bool→MV→aH):aH:=aC as fun a r=>a0 r <| dI a fun i=>k false (.int i.natAbs)
noncomputable def sumK(as:List MV)(k:Bool→MV→aH):aH:=aC as fun a r=>a0 r <| dL a fun ts=>(ints? ts).bind fun is=>k false (.int is.sum)
noncomputable def N8(as:List MV)(k:Bool→MV→aH):aH:=aC as fun a r=>aC r fun b r=>a0 r <| i2 a b fun a b=>k false (.int (bif decide (b<a)then b else a))
noncomputable def Ei(as:List MV)(k:Bool→MV→aH):aH:=aC as fun a r=>dI a fun a=>match r with
 | []=>bif eu a then k false (.range 0 a 1)else none
 |b::r=>dI b fun b=>match r with
  | []=>bif eu a&&eu b then k false (.range a b 1)else none
  |c::r=>a0 r <| dI c fun c=>bif(eu a&&eu b)&&decide (c= -1)then k false (.range a b (-1))else none
noncomputable def Jx(as:List MV)(k:Bool→MV→aH):aH:=aC as fun c r=>a0 r <| (d7 c).bind fun ts=>bif aQ ts.length then k true (.list ts)else none
noncomputable def sortedK(as:List MV)(k:Bool→MV→aH):aH:=aC as fun c r=>a0 r <| match c with
 | .set is=>bif decide (is.length≤8)then k true (.list ((sortI is).map .int))else none
 |_=>none
noncomputable def ux(f:Str)(as:List MV)(k:Bool→MV→aH):aH:=
 bif pE f "len" then Oh as k
 else bif pE f "int" then Ol as k
 else bif pE f "abs" then OS as k
 else bif pE f "sum" then sumK as k
 else bif pE f "min" then N8 as k
 else bif pE f "range" then Ei as k
 else bif pE f "list" then Jx as k
 else bif pE f "set" then a0 as (k true (.set []))
 else bif pE f "sorted" then sortedK as k
 else none
noncomputable def zh(m:Str)(c:MV)(as:List MV)(k:MV→MV→aH):aH:=
 match c with
 | .list ts=>
   bif pE m "append" then aC as fun t r=>a0 r <| bif aQ ts.length then k .none (.list (ts++[t]))else none
   else bif pE m "pop" then a0 as (ts.getLast?.bind fun t=>k t (.list ts.dropLast))
   else bif pE m "extend" then aC as fun t r=>a0 r <| dL t fun us=>bif aQ (ts.length+us.length)then k .none (.list (ts++us))else none
   else none
 | .set is=>
   bif pE m "add" then aC as fun t r=>a0 r <| dI t fun i=>bif decide (i∈is)||(decide (is.length<2)&&(decide (0≤i)&&decide (i<64)))then k .none (.set (if i∈is then is else is++[i]))else none
   else none
 |_=>none
noncomputable def AI(m:Str):MV→Bool
 | .list _=>pE m "append"||(pE m "pop"||pE m "extend")
 | .set _=>pE m "add"
 |_=>false
noncomputable def w9(st:St)(x:fG)(k:KT):aH:=match st.get x with
 |some s=>(match s with| .aw t=>k false t st| .own t=>k false t (st.put x (.aw t))| .cK _=>none| .ro _=>none| .me _=>none)
 |none=>none
noncomputable def jP(cx:Cx)(x:Str):Bool:=match cx.sc.names.lookup x with
 |some k=>(match k with| .local=>true| .cell=>true| .free=>true| .globalImplicit=>false| .globalExplicit=>false)
 |none=>false
theorem Cu{cx:Cx}{x:Str}(h:jP cx x=true):cx.sc.names.lookup x=some .local∨cx.sc.names.lookup x=some .cell∨cx.sc.names.lookup x=some .free:=by
 unfold jP at h
 revert h
 generalize cx.sc.names.lookup x=k
 intro h
 induction k using ab with
 |none=>exact ew h
 |some k=>induction k using NameKind.casesOn with
  |«local»=>exact .inl rfl
  |cell=>exact .inr (.inl rfl)
  |free=>exact .inr (.inr rfl)
  |_=>exact ew h
noncomputable def vS(cx:Cx)(x:Str)(st:St)(k:KT):aH:=
 bif jP cx x then w9 st (.v x) k else bif decide (cx.sc.names.lookup x=some .globalImplicit)then(cx.glob x).bind fun t=>k false t st else none
noncomputable def m8:Option Slot→Option MV
 |some (.aw t)=>some t
 |some (.own t)=>some t
 |some (.cK t)=>some t
 |some (.ro t)=>some t
 |_=>none
noncomputable def QL:Option Slot→Option MV
 |some (.own t)=>some t
 |some (.cK t)=>some t
 |some (.ro t)=>some t
 |_=>none
noncomputable def vA:Option Slot→Option MV
 |some (.own t)=>some t
 |some (.cK t)=>some t
 |_=>none
noncomputable def Slot.with(t:MV):Slot→Slot
 | .own _=> .own t
 | .cK _=> .cK t
 |s=>s
noncomputable def St.mr(st:St)(x:fG)(t:MV):St:=match st.get x with
 |some s=>st.put x (s.with t)
 |none=>st
noncomputable def kN(e:Expr):Bool:=decide (e.ctorIdx=23)||decide (e.ctorIdx=20)||decide (e.ctorIdx=21)
noncomputable def AJ:List Str→List MV→Str→Option MV
 |n::ns,t::ts,a=>if n=a then some t else AJ ns ts a
 |_,_,_=>none
noncomputable def Nc{β:Type}(s:Option Slot)(k:Addr→Option β)(d:Option β:=none):Option β:=match s with
 |some s=>(match s with| .me C=>k C| .aw _=>d| .own _=>d| .cK _=>d| .ro _=>d)
 |none=>d
theorem EH{β:Type}{s:Option Slot}{k:Addr→Option β}{d r:Option β}(h:Nc s k d=r):(∃C,s=some (.me C)∧k C=r)∨d=r:=by
 induction s using ab with
 |none=>exact .inr h
 |some s=>induction s using Slot.casesOn with
  |me C=>exact .inl ⟨C,rfl,h⟩
  |_=>exact .inr h
theorem Bh{β:Type}{s:Option Slot}{k:Addr→Option β}{r:β}(h:Nc s k=some r): ∃C,s=some (.me C)∧k C=some r:=(EH h).elim id nn
noncomputable def refKey(cx:Cx)(st:St)(e:Expr):Option fG:=
 qy e (fun x=>bif jP cx x then some (.v x)else none) <| kY e fun o a Y=>nr o fun s=>bif jP cx s then Nc (st.get (.v s)) fun C=>bif cx.attr C a then some (.a a)else none else none
noncomputable def gM(cx:Cx)(st:St)(e:Expr):Option fG:=(refKey cx st e).bind fun x=>(QL (st.get x)).map fun Y=>x
inductive Arg where
 |kG (x:Str)
 |val (o:Bool) (t:MV)
noncomputable def b9:List c8→c8
 | []=> .aw
 |m::_=>m
noncomputable def Jt{β:Type}(m:c8)(a b:β):β:=match m with| .lend=>a| .aw=>b| .own=>b
noncomputable def eH(R:Expr→St→KT→aH)(cx:Cx):List c8→List Expr→St→(List Arg→St→aH)→aH
 |_,[],st,k=>k [] st
 |ms,e::es,st,k=>Jt (b9 ms) (nr e fun x=>(vA (st.get (.v x))).bind fun Y=>bif jP cx x then eH R cx ms.tail es st fun as st=>k (.kG x::as) st else none)
  (R e st fun o t st=>eH R cx ms.tail es st fun as st=>k (.val o t::as) st)
noncomputable def Arg.tree(st:St):Arg→Option MV
 | .kG x=>vA (st.get (.v x))
 | .val _ t=>some t
noncomputable def Arg.fits(m:c8):Arg→Bool
 | .kG _=>(match m with| .lend=>true| .aw=>false| .own=>false)
 | .val o _=>(match m with| .lend=>false| .aw=>true| .own=>o)
noncomputable def oY(st:St):List Arg→Option (List MV)
 | []=>some []
 |a::as=>(a.tree st).bind fun t=>(oY st as).map fun ts=>t::ts
noncomputable def vW:List c8→List Arg→Bool
 |_,[]=>true
 |ms,a::as=>a.fits (b9 ms)&&vW ms.tail as
noncomputable def lW:List Arg→Option Str
 | []=>none
 |a::as=>(match a with| .kG x=>some x| .val _ _=>lW as)
noncomputable def jf:List Arg→Nat
 | []=>0
 |a::as=>(match a with| .kG _=>jf as+1| .val _ _=>jf as)
noncomputable def Jz(own:Bool)(l:Option Str)(st:St)(k:KT)(r:MV)(o:Option MV):aH:=match l with
 |some x=>o.bind fun t=>k own r (st.mr (.v x) t)
 |none=>(match o with|some _=>none|none=>k own r st)
noncomputable def runC(c:ej)(pre:List MV)(as:List Arg)(st:St)(k:KT):aH:=
 bif vW c.aY as&&decide (jf as≤1)then(oY st as).bind fun ts=>c.run (pre++ts) (Jz c.own (lW as) st k)else none
noncomputable def vZ:List c8→Option (List c8)
 | []=>some []
 |m::ms=>(match m with| .aw=>some ms| .own=>none| .lend=>none)
noncomputable def oq:List Arg→Option (List MV)
 | []=>some []
 |a::as=>(match a with| .val _ t=>(oq as).map fun ts=>t::ts| .kG _=>none)
noncomputable def d5:St→List Str
 | []=>[]
 |p::r=>(match p.1 with| .a x=>x::d5 r| .v _=>d5 r)
noncomputable def iB:St→Option (List Str×List MV)
 | []=>some ([],[])
 |p::r=>(match p.1 with
  | .a x=>(m8 (some p.2)).bind fun t=>(iB r).map fun q=>(x::q.1,t::q.2)
  | .v _=>iB r)
noncomputable def isAtom:MV→Bool
 | .none=>true
 | .bool _=>true
 | .int _=>true
 | .str _=>true
 |_=>false
noncomputable def zH(R:Expr→St→KT→aH)(e:Option Expr)(st:St)(k:Option MV→St→aH):aH:=match e with
 |none=>k none st
 |some e=>R e st fun Y t st=>k (some t) st
noncomputable def peek(R:Expr→St→KT→aH)(cx:Cx)(e:Expr)(st:St)(k:MV→St→aH):aH:=
 match gM cx st e with
 |some x=>(m8 (st.get x)).bind fun t=>k t st
 |none=>R e st fun Y t st=>k t st
noncomputable def D6(R:Expr→St→KT→aH)(cx:Cx)(iP slice:Expr)(st:St)(k:KT):aH:=
 Ek slice (fun lo hi s=>match s with
  |some _=>none
  |none=>R iP st fun Y c st=>zH R lo st fun l st=>zH R hi st fun h st=>Ed c l h fun o t=>k o t st) <|
 match gM cx st iP with
  |some x=>R slice st fun Y i st=>(m8 (st.get x)).bind fun c=>ea c i fun t=>k false t st
  |none=>R iP st fun Y c st=>R slice st fun Y i st=>ea c i fun t=>k false t st
noncomputable def uy(R:Expr→St→KT→aH)(op:BoolOp):List Expr→St→(Bool→St→aH)→aH
 | [],_,_=>none
 |e::es,st,k=>R e st fun Y t st=>dB t fun b=>bif es.isEmpty then k b st else match op with
   | .And=>bif b then uy R op es st k else k false st
   | .Or=>bif b then k true st else uy R op es st k
noncomputable def hU(e:Expr):Bool:= !decide (e.ctorIdx=7)
noncomputable def isIn:CmpOp→Bool
 | .In=>true
 | .NotIn=>true
 |_=>false
noncomputable def DF(R:Expr→St→KT→aH)(cx:Cx)(l:Expr)(oa:List CmpOp)(rs:List Expr)(st:St)(k:Bool→St→aH):aH:=
 aC oa fun op r=>a0 r <| aC rs fun e r=>a0 r <| bif hU e then(R l st fun Y a st=>bif isIn op then(peek R cx e st fun b st=>eN op a b fun c=>k c st)
  else(R e st fun Y b st=>eN op a b fun c=>k c st))else none
noncomputable def Hi(R:Expr→St→KT→aH)(cx:Cx)(l:Expr)(oa:List CmpOp)(rs:List Expr)(st:St)(k:Bool→St→aH):aH:=
 bif decide (oa.length=2)then aC oa fun op r=>aC r fun Bz Y=>aC rs fun e r=>aC r fun e' r=>a0 r <|
  bif hU e' then(R l st fun Y a st=>R e st fun Y b st=>eN op a b fun c=>bif c then(R e' st fun Y b' st=>eN Bz b b' fun c=>k c st)else k false st)else none
 else DF R cx l oa rs st k
noncomputable def Hk(T:Expr→St→(Bool→St→aH)→aH)(op:BoolOp):List Expr→St→(Bool→St→aH)→aH
 | [],st,k=>(match op with| .And=>k true st| .Or=>k false st)
 |e::es,st,k=>T e st fun b st=>match op with
  | .And=>bif b then Hk T op es st k else k false st
  | .Or=>bif b then k true st else Hk T op es st k
noncomputable def Wo{β:Type}(e:Expr)(k:Expr→β)(d:β):β:=xL e (fun op x=>match op with| .Not=>k x| .UAdd=>d| .USub=>d| .Invert=>d) d
theorem LP{β:Type}{e:Expr}{k:Expr→β}{d r:β}(h:Wo e k d=r):(∃x p,e= .UnaryOp .Not x p∧k x=r)∨((∀x p,e≠ .UnaryOp .Not x p)∧d=r):=by
 rcases yG h with⟨o,x,p,rfl,g⟩|⟨q,g⟩
 .clear h
  induction o using UnaryOp.casesOn with
  |Not=>exact .inl ⟨x,p,rfl,g⟩
  |_=>exact .inr ⟨nofun,g⟩
 .exact .inr ⟨fun x p z=>q (z▸rfl),g⟩
noncomputable def fH(R:Expr→St→KT→aH)(cx:Cx):Nat→Expr→St→(Bool→St→aH)→aH
 |0,_,_,_=>none
 |n+1,e,st,k=>Wo e (fun x=>fH R cx n x st fun b st=>k (!b) st) <| v5 e (fun op es=>Hk (fH R cx n) op es st k) <| kj e (fun l oa rs=>Hi R cx l oa rs st k) <|
  bif decide (e.ctorIdx=5)then none else peek R cx e st fun t st=>(iW t).bind fun b=>k b st
noncomputable def Dx(T:Expr→St→(Bool→St→aH)→aH):List Expr→St→(Bool→St→aH)→aH
 | [],st,k=>k true st
 |e::es,st,k=>T e st fun b st=>bif b then Dx T es st k else k false st
noncomputable def Slot.seen:Slot→Option Slot
 | .own t=>some (.ro t)
 | .cK t=>some (.ro t)
 | .me _=>none
 |s=>some s
noncomputable def St.inner(sc:Scope):St→St
 | []=>[]
 |p::r=>(match p.1 with
  | .v y=>bif decide (sc.names.lookup y=some .free)then(match p.2.seen with|some s=>(.v y,s)::St.inner sc r|none=>St.inner sc r)else St.inner sc r
  | .a _=>St.inner sc r)
noncomputable def qE(R:Expr→St→KT→aH)(T:Expr→St→(Bool→St→aH)→aH)(x:Str)(ifs:List Expr)(qV:Expr):List MV→St→List MV→(List MV→aH)→aH
 | [],_,acc,k=>k acc
 |t::ts,st,acc,k=>Dx T ifs (st.put (.v x) (.aw t)) fun b st=>bif b then
   (R qV st fun Y u st=>qE R T x ifs qV ts st (acc++[u]) k)
  else qE R T x ifs qV ts st acc k
noncomputable def nP(R:Expr→St→KT→aH)(x:Str)(key val:Expr):List MV→St→Nat→List Int→List MV→(Nat→List Int→List MV→aH)→aH
 | [],_,n,ks,us,k=>k n ks us
 |t::ts,st,n,ks,us,k=>R key (st.put (.v x) (.aw t)) fun Y kt st=>R val st fun Y u st=>dI kt fun i=>
  bif aQ n then nP R x key val ts st (n+1) (gZ ks us i u).1 (gZ ks us i u).2 k else none
noncomputable def pT(m9 inner:Scope)(x:Str):Bool:=
 decide (inner.kind= .function)&&(decide (inner.names.lookup x=some .local)||decide (inner.names.lookup x=some .cell))&&
 (inner.names.map (·.1)).Nodup&&inner.names.all fun p=>decide (p.1≠Str.ofString "__debug__")&&decide (p.1≠Str.ofString "__classdict__")&&(match p.2 with
   | .local=>true
   | .cell=>decide (p.1=x)
   | .globalImplicit=>true
   | .free=>decide (m9.names.lookup p.1=some .cell)||decide (m9.names.lookup p.1=some .free)
   | .globalExplicit=>false)
noncomputable def er(es:List Expr):Bool:=es.all fun e=> !decide (e.ctorIdx=22)
noncomputable def EN(R:Expr→St→KT→aH)(cx:Cx)(C:Addr)(m:Str)(args:List Expr)(st:St)(k:KT):aH:=
 (cx.pA C m).bind fun c=>eH R cx [] args st fun as st=>(oq as).bind fun ts=>(iB st).bind fun q=>a0 c.aY <| c.run (.inst C q.1 q.2::ts) fun r out=>match out with
   |none=>bif isAtom r then k false r st else none
   |some _=>none
noncomputable def AR{β:Type}(t:MV)(k:Addr→List Str→List MV→Option β):Option β:=match t with| .inst C ns us=>k C ns us|_=>none
theorem uY{β:Type}{t:MV}{k:Addr→List Str→List MV→Option β}{r:β}(h:AR t k=some r): ∃C ns us,t= .inst C ns us∧k C ns us=some r:=by
 induction t using MV.casesOn with
 |inst C ns us=>exact⟨C,ns,us,rfl,h⟩
 |_=>exact nn h
noncomputable def ym(R:Expr→St→KT→aH)(cx:Cx)(m:Str)(args:List Expr)(k:KT)(t:MV)(st:St):aH:=
 AR t fun C ns us=>bif !decide (m∉ns)then none else(cx.pA C m).bind fun c=>(vZ c.aY).bind fun ms=>eH R cx ms args st fun as st=>runC { c with aY:=ms } [.inst C ns us] as st k
noncomputable def W4{β:Type}(s:Option Slot)(k:(Int→Int→Option Int)→Option β):Option β:=match s with
 |some s=>(match s with
  | .aw t=>(match t with| .fn g=>k g|_=>none)
  | .own _=>none| .cK _=>none| .ro _=>none| .me _=>none)
 |none=>none
theorem Iz{β:Type}{s:Option Slot}{k:(Int→Int→Option Int)→Option β}{r:β}(h:W4 s k=some r): ∃g,s=some (.aw (.fn g))∧k g=some r:=by
 induction s using ab with
 |none=>exact nn h
 |some s=>induction s using Slot.casesOn with
  |aw t=>induction t using MV.casesOn with
   |fn g=>exact⟨g,rfl,h⟩
   |_=>exact nn h
  |_=>exact nn h
noncomputable def km(R:Expr→St→KT→aH)(cx:Cx)(x:Str)(args:List Expr)(st:St)(k:KT):aH:=match cx.fn x with
 |some c=>eH R cx c.aY args st fun as st=>runC c [] as st k
 |none=>bif !decide (x∈c9)then none else bif decide (args.length=1)then aC args fun e Y=>peek R cx e st fun t st=>ux x [t] fun o t=>k o t st
  else eH R cx [] args st fun as st=>(oq as).bind fun ts=>ux x ts fun o t=>k o t st
noncomputable def vT(R:Expr→St→KT→aH)(cx:Cx)(f:Expr)(args:List Expr)(pos:Pos)(st:St)(k:KT):aH:=
 bif er args&&decide (args.length<20)then qy f (fun x=>bif decide (cx.sc.names.lookup x=some .globalImplicit)then km R cx x args st k else bif decide (cx.sc.names.lookup x=some .local)then
     W4 (st.get (.v x)) fun g=>eH R cx [] args st fun as st=>(oq as).bind fun ts=>aC ts fun a r=>aC r fun b r=>a0 r <| i2 a b fun a b=>(g a b).bind fun r=>k false (.int r) st
  else none) <| kY f fun o m lA=>bif !(lA.endLine==pos.line)then none else match gM cx st o with
  |some x=>(m8 (st.get x)).bind fun DE=>bif AI m DE then eH R cx [] args st fun as st=>(oq as).bind fun ts=>(vA (st.get x)).bind fun c=>zh m c ts fun r c'=>k false r (st.mr x c')else none
  |none=>qy o (fun s=>Nc (st.get (.v s)) (fun C=>bif !(jP cx s&&decide (m∉d5 st))then none else EN R cx C m args st k) (R o st fun Y t st=>ym R cx m args k t st)) <|
   bif !kN o then none else R o st fun Y t st=>BM t fun s=>bif pE m "strip"&&args.isEmpty&&aQ s.length then k false (.str (Txt.strip s)) st else none
 else none
noncomputable def ev:Nat→RT
 |0,_,_,_,_=>none
 |n+1,cx,e,st,k=>
  let R:=ev n cx
  match e with
  | .Constant c _ _=>(match c with
    | .none=>k false .none st
    | .bool b=>k false (.bool b) st
    | .int i=>k false (.int i) st
    | .str s=>k false (.str s) st
    |_=>none)
  | .Name x _=>vS cx x st k
  | .BinOp l op r _=>R l st fun Y a st=>R r st fun Y b st=>m5 op a b fun o t=>k o t st
  | .UnaryOp op x _=>R x st fun Y t st=>(match op with| .Not=>(iW t).bind fun b=>k false (.bool (!b)) st|op=>MS op t fun t=>k false t st)
  | .BoolOp op es _=>uy R op es st fun b st=>k false (.bool b) st
  | .IfExp t b o _=>fH R cx n t st fun c st=>bif c then R b st k else R o st k
  | .Compare l oa rs _=>DF R cx l oa rs st fun b st=>k false (.bool b) st
  | .Call f args kws pos=>a0 kws (vT R cx f args pos st k)
  | .Attribute o a _=>(match refKey cx st e with
    |some x=>w9 st x k
    |none=>bif kN o then(R o st fun Y t st=>AR t fun C ns ts=>bif cx.attr C a then(AJ ns ts a).bind fun u=>k false u st else none)else none)
  | .Subscript v s _=>D6 R cx v s st k
  | .List es _=>eH R cx [] es st fun as st=>(oq as).bind fun ts=>bif aQ ts.length then k true (.list ts) st else none
  | .Tuple es _ _=>eH R cx [] es st fun as st=>(oq as).bind fun ts=>bif aQ ts.length then k false (.tup ts) st else none
  | .Set es sk _=>aC es fun e r=>a0 r <| bif cx.sd&&(decide (displayRoad sk [e]= .oneByOne)&&kdsPlain e)then R e st fun Y t st=>dI t fun i=>bif decide (0≤i)&&decide (i<64)then k true (.set [i]) st else none else none
  | .Dict ks vs _=>a0 ks <| a0 vs <| k true (.dict 0 [] []) st
  | .ListComp qV gens sc _=>aC gens fun g gs=>a0 gs <| nr g.target fun x=>bif decide (g.is_async=0)then
      (bif hU g.iter&&pT cx.sc sc x then(R g.iter st fun Y it st=>(d7 it).bind fun ts=>bif aQ ts.length then qE (ev n { cx with sc:=sc }) (fH (ev n { cx with sc:=sc }) { cx with sc:=sc } n) x g.ifs qV ts (st.inner sc) [] fun us=>k true (.list us) st else none)else none)else none
  | .DictComp key val gens sc _=>aC gens fun g gs=>a0 gs <| nr g.target fun x=>a0 g.ifs <| bif decide (g.is_async=0)then
      (bif hU g.iter&&pT cx.sc sc x then(R g.iter st fun Y it st=>(d7 it).bind fun ts=>bif aQ ts.length then nP (ev n { cx with sc:=sc }) x key val ts (st.inner sc) 0 [] [] fun m ks us=>k true (.dict m ks us) st else none)else none)else none
  |_=>none
noncomputable def AA(e:Expr):Option (List Expr):=zJ e some
theorem zO{e:Expr}{es:List Expr}(h:AA e=some es): ∃c p,e= .Tuple es c p:=by
 obtain⟨l,c,p,rfl,h⟩:=sU h
 exact⟨c,p,by rw[Option.some.inj h]⟩
noncomputable def oU(e:Expr):Bool:=decide (e.ctorIdx=26)
noncomputable def ci:St→Option MV
 | []=>none
 |p::r=>(match p.2 with| .cK t=>some t| .aw _=>ci r| .own _=>ci r| .ro _=>ci r| .me _=>ci r)
noncomputable def fK(o:Bool)(t:MV):Slot:=bif o then .own t else .aw t
noncomputable def dK:Option Slot→Bool
 |some (.cK _)=>false
 |some (.ro _)=>false
 |some (.me _)=>false
 |_=>true
noncomputable def gN(cx:Cx)(x:Str)(s:Slot)(st:St)(k:St→aH):aH:=
 match cx.sc.names.lookup x with
 |some .local=>bif dK (st.get (.v x))then k (st.put (.v x) s)else none
 |some .cell=>bif dK (st.get (.v x))then k (st.put (.v x) s)else none
 |_=>none
noncomputable def assignEach(cx:Cx):List Expr→List Slot→St→(St→aH)→aH
 | [],ss,st,k=>a0 ss (k st)
 |e::es,ss,st,k=>nr e fun x=>aC ss fun s ss=>gN cx x s st fun st=>assignEach cx es ss st k
noncomputable def zB(e:Expr)(p:Str→Bool):Bool:=qy e p false
noncomputable def fB:List Expr→Bool
 | []=>true
 |e::r=>zB e fun x=>(r.all fun e=>zB e fun y=>decide (x≠y))&&fB r
noncomputable def kq:List Arg→Option (List Slot)
 | []=>some []
 |a::as=>(match a with| .val o t=>(kq as).map fun ss=>fK o t::ss| .kG _=>none)
noncomputable def dN(B:St→(St→aH)→aH)(x:Str):List MV→St→(St→aH)→aH
 | [],st,k=>k st
 |t::ts,st,k=>bif dK (st.get (.v x))then B (st.put (.v x) (.aw t)) fun st=>dN B x ts st k else none
noncomputable def rQ(B:St→(St→aH)→aH)(x y:Str):List MV→Nat→St→(St→aH)→aH
 | [],_,st,k=>k st
 |t::ts,i,st,k=>bif dK (st.get (.v x))&&dK ((st.put (.v x) (.aw (.int i))).get (.v y))then
   B ((st.put (.v x) (.aw (.int i))).put (.v y) (.aw t)) fun st=>rQ B x y ts (i+1) st k else none
noncomputable def j4(T:St→(Bool→St→aH)→aH)(B:St→(St→aH)→aH):Nat→St→(St→aH)→aH
 |0,_,_=>none
 |n+1,st,k=>T st fun b st=>bif b then B st fun st=>j4 T B n st k else k st
mutual
noncomputable def ex:Nat→Cx→Stmt→St→(St→aH)→aH
 |0,_,_,_,_=>none
 |n+1,cx,s,st,k=>
  let R:=ev n cx
  match s with
  | .Pass _=>k st
  | .Expr e _=>bif decide (e.ctorIdx=16)then R e st fun Y t st=>bif isNone t then k st else none else none
  | .Return e _=>(match e with
    |some e=>R e st fun o t st=>bif !cx.own||o then some (t,ci st)else none
    |none=>bif !cx.own then some (.none,ci st)else none)
  | .If t b o _=>fH R cx n t st fun c st=>bif c then bF n cx b st k else bF n cx o st k
  | .While t b o _=>a0 o <| j4 (fH R cx n t) (bF n cx b) cx.wf st k
  | .For tg iter b o _=>a0 o <| qy tg (fun x=>bif hU iter&&decide (cx.sc.names.lookup x=some .local∨cx.sc.names.lookup x=some .cell)then R iter st fun Y it st=>
      (d7 it).bind fun ts=>bif aQ ts.length then dN (bF n cx b) x ts st k else none else none) <|
      zJ tg fun es=>aC es fun e1 es=>nr e1 fun x=>aC es fun e2 es=>nr e2 fun y=>a0 es <| JU iter fun g as ks=>nr g fun f=>aC as fun e as=>a0 as <| a0 ks <|
       bif pE f "enumerate"&&(decide (cx.sc.names.lookup f=some .globalImplicit)&&(decide (cx.sc.names.lookup x=some .local)&&(decide (cx.sc.names.lookup y=some .local)&&decide (x≠y))))&&(cx.fn f).isNone then
        R e st fun Y it st=>dL it fun ts=>bif aQ ts.length then rQ (bF n cx b) x y ts 0 st k else none
       else none
  | .Assign Nq e _=>aC Nq fun tg Nq=>a0 Nq <|
      qy tg (fun x=>R e st fun o t st=>gN cx x (fK o t) st k) <|
      vL tg (fun ts=>match AA e with
       |some es=>bif(fB ts&&decide (ts.length<20))&&(!es.all (constantsAlone 8)&&er es)then eH R cx [] es st fun as st=>(kq as).bind fun ss=>assignEach cx ts ss st k else none
       |none=>bif fB ts then(R e st fun Y t st=>dT t fun us=>bif decide (ts.length=us.length)then assignEach cx ts (us.map .aw) st k else none)else none) <|
      sK tg (fun c i=>bif oU i then none else R e st fun Y t st=>(gM cx st c).bind fun x=>R i st fun Y j st=>(vA (st.get x)).bind fun c=>G4 c j t fun c'=>k (st.mr x c')) <|
      kY tg fun o a Y=>nr o fun s=>R e st fun o t st=>Nc (st.get (.v s)) fun C=>
       bif(jP cx s&&decide ((d5 st).length<100))&&(cx.attr C a&&dK (st.get (.a a)))then k (st.put (.a a) (fK o t))else none
  |_=>none
noncomputable def bF:Nat→Cx→List Stmt→St→(St→aH)→aH
 |0,_,_,_,_=>none
 |n+1,cx,l,st,k=>(match l with
  | []=>k st
  |s::r=>ex n cx s st fun st=>bF n cx r st k)
end
set_option genInjectivity false
noncomputable def eQ(L:Bool)(ps:Array Nat):SetTable:={ mask:=7,place:=ps,dummies:= #[],finger:=0,led:=L,moves:=0,plain:=true }
noncomputable def ei(w:World):Bool:= !w.params.followText "set-order"
noncomputable def K5(w:World)(o:Obj):Prop:= ∃es ep ps,o.data= .set es ep (eQ (ei w) ps)∧ps.size=es.size∧es.size≤2∧(∀p∈ps.toList,p<8)∧(ps.size=2→ps.getD 0 0<ps.getD 1 0)
theorem QU: ∀(L:Bool)(b:Fin 64),∃j:Fin 8,(eQ L #[]).freeSlot (b.val:Int)=some (j.val,false):=by decide+kernel
theorem QT: ∀(L:Bool)(p:Fin 8)(b:Fin 64),∃j:Fin 8,j≠p∧(eQ L #[p.val]).freeSlot (b.val:Int)=some (j.val,false):=by decide+kernel
theorem hash64: ∀b:Fin 64,hashInt (b.val:Int)=(b.val:Int):=by decide+kernel
theorem TZ: ∀(L:Bool)(j:Fin 8),(eQ L #[]).put j.val=(eQ L #[j.val],0):=by decide+kernel
theorem TY: ∀(L:Bool)(p j:Fin 8),j≠p→(eQ L #[p.val]).put j.val=(eQ L (if p<j then #[p.val,j.val]else #[j.val,p.val]),if p<j then 1 else 0):=by decide+kernel
theorem UA{L:Bool}{b:Int}(h0:0≤b)(h1:b<64)(x:Value): ∃ps,layNew (eQ L #[]) #[] b x=(#[(b,x)],eQ L ps,false,false)∧ps.size=1∧(∀p∈ps.toList,p<8):=by
 obtain⟨j,hj⟩:=QU L ⟨b.toNat,by exact RC ‹_› ‹_›⟩
 have hb:((b.toNat:Nat):Int)=b:=by exact Int.toNat_of_nonneg ‹_›
 rw[hb]at hj
 refine⟨#[j.val],?_,rfl,by simp⟩
 delta layNew
 refine ae hj ?_
 dsimp only
 refine ae (TZ ..) ?_
 rfl
theorem Uz{L:Bool}{p:Nat}(hp:p<8){b:Int}(h0:0≤b)(h1:b<64)(e:Int×Value)(x:Value): ∃ps es,layNew (eQ L #[p]) #[e] b x=(es,eQ L ps,false,false)∧ps.size=2∧es.size=2∧(∀p∈ps.toList,p<8)∧ps.getD 0 0<ps.getD 1 0:=by
 obtain⟨j,lw,hj⟩:=QT L ⟨p,hp⟩ ⟨b.toNat,by exact RC ‹_› ‹_›⟩
 have hb:((b.toNat:Nat):Int)=b:=by exact Int.toNat_of_nonneg ‹_›
 rw[hb]at hj
 delta layNew
 refine ae hj ?_
 dsimp only
 have BJ:=TY L ⟨p,hp⟩ j lw
 dsimp only at BJ
 refine ae BJ ?_
 by_cases gG:(⟨p,hp⟩:Fin 8)<j
 .simp only[aF gG]
  exact⟨#[p,j.val], #[e,(b,x)],rfl,rfl,rfl,by simp[hp],gG⟩
 .simp only[az gG]
  refine⟨#[j.val,p], #[(b,x),e],rfl,rfl,rfl,by simp[hp],?_⟩
  refine(?_:j.val<p)
  have:j.val≠p:=fun q=>lw (Fin.ext q)
  exact Nat.lt_of_le_of_ne (Nat.not_lt.mp gG) this
section
variable{prog:Program}{w:World}{A:Around}{E:Value→Shared→Prop}{s:Shared}
theorem DB{L:Bool}{ps:Array Nat}{n:Nat}(h:ps.size=n)(hn:n≤2):(eQ L ps).fits n=true:=by
 delta SetTable.fits SetTable.fill eQ
 simp[h];exact af ‹_› (aa rfl)
theorem HA{a:Addr}{o:Obj}{is:List Int}{i:Int}{t:Tok}(ho:s.heap.get? a=some o)(hs:o.IntSetOf (fun k=>decide (k∈is)) is.length)(hx:K5 w o)(hi:i∈is∨(is.length<2∧0≤i∧i<64)){Q:Bool→Shared→Prop}
 (h: ∀h' o',h'.get? a=some o'→(∀b ob,b≠a→s.heap.get? b=some ob→h'.get? b=some ob)→o'.IntSetOf (fun k=>decide (k∈if i∈is then is else is++[i])) (if i∈is then is else is++[i]).length→K5 w o'→ ∀r,Q r { s with heap:=h' }):
 wpAny (model prog w) A (setAddHashed a (.int i t) ((intKind prog w).hash i)) Q E s:=by
 obtain⟨Ay,es,ep,tt,hd,Kg,pL,hn,hf⟩:=hs prog w
 obtain⟨I6,W0,ps,lF,pD,hz,Ta,wR⟩:=hx
 rw[hd]at lF
 injection lF with h1 h2 h3
 subst h1;subst h2;subst h3
 have tI:(intKind prog w).is i (.int i t)=true:=intKind_is _ _ _ _
 have y5:(Value.int i t).scannable=true:=rfl
 have hb:es.size<scanBound:=by delta scanBound;exact aX ‹_› (aa rfl)
 refine wpAny_holding (ak (wpAny_setState_of ho hd hf ?_))
 dsimp only
 refine ae (byScan_of y5 hb Kg) ?_
 simp only[↓reduceIte]
 delta setAddByScan
 refine ak ?_
 refine ak (wpAny_rule ?_)
 refine ak (wpAny_setScan_of tI ho hd hf Kg ?_)
 clear hf hb;induction hr:List.findIdx? (fun e=>(intKind prog w).is i e.2) es.toList using ab with
 |some j=>
  obtain⟨hj,YB,_⟩:=List.findIdx?_eq_some_iff_getElem.mp hr
  have R8:i∈is:=aj ((pL i).mpr ⟨es.toList[j],List.getElem_mem hj,YB⟩)
  refine av (av ?_)
  have e:s={ s with heap:=s.heap }:=by clear ho h;cases s;rfl
  refine ae e ?_
  refine h s.heap o ho (fun Y Y Y e=>e) ?_ ⟨es,ep,ps,hd,pD,hz,Ta,wR⟩ _
  exact ae (aF R8) hs
 |none=>
  have R8:i∉is:=fun hk=>by
   obtain⟨e,he,hp⟩:=(pL i).mp (aW hk)
   have:=List.findIdx?_eq_none_iff.mp hr e he;rw[hp]at this;exact Bool.noConfusion this
  clear wR hr;obtain⟨gh,h0,R9⟩:=hi.resolve_left R8
  have hh:(intKind prog w).hash i=i:=by
   have:=hash64 ⟨i.toNat,by exact RC ‹_› ‹_›⟩
   have e:((i.toNat:Nat):Int)=i:=by exact Int.toNat_of_nonneg ‹_›
   rw[e]at this;exact this
  have key: ∃Dc y7,layNew (eQ (ei w) ps) es ((intKind prog w).hash i) (.int i t)=(Dc,eQ (ei w) y7,false,false)∧y7.size=Dc.size∧Dc.size=es.size+1∧(∀p∈y7.toList,p<8)∧(y7.size=2→y7.getD 0 0<y7.getD 1 0):=by
   refine ae hh ?_
   clear Kg pL hz hd;rcases Nat.lt_or_ge es.size 1 with q|q
   .have e0:es= #[]:=Array.eq_empty_of_size_eq_zero (Nat.lt_one_iff.mp q)
    clear hn Ta q;subst e0
    have p0:ps= #[]:=Array.eq_empty_of_size_eq_zero (by simpa using pD)
    clear pD;subst p0
    obtain⟨y7,q1,q2,q3⟩:=UA (L:=ei w) h0 R9 (.int i t)
    exact⟨_,y7,q1,q2,rfl,q3,fun e=>absurd (q2.symm.trans e) (by decide)⟩
   .have UO:es.size=1:=Nat.le_antisymm (Nat.le_of_lt_succ (hn▸gh)) q
    clear hn q;obtain⟨e0,rfl⟩: ∃e,es= #[e]:=⟨es[0]'(by exact c6 (Eq.symm ‹_›)),by apply Array.ext<;>simp[UO];intro j hj;subst hj;rfl⟩
    obtain⟨p0,rfl⟩: ∃p,ps= #[p]:=⟨ps[0]'(by exact ae pD (bn _)),by apply Array.ext<;>simp[pD];intro j hj;subst hj;rfl⟩
    obtain⟨y7,Dc,q1,q2,q3,q4,q5⟩:=Uz (L:=ei w) (Ta p0 (by simp)) h0 R9 e0 (.int i t)
    exact⟨Dc,y7,q1,by lia,by simpa using q3,q4,fun Y=>q5⟩
  obtain⟨Dc,y7,hL,k1,k2,k3,k4⟩:=key
  have k5:Dc.size≤2:=af (c6 k2) (Nat.succ_le_succ (Nat.le_of_lt_succ (hn.symm▸gh)))
  have rN:=layNew_perm (eQ (ei w) ps) es ((intKind prog w).hash i) (.int i t)
  rw[hL]at rN ⊢
  dsimp only at rN ⊢
  rw[Array.toList_push]at rN
  have UP:ElemsOf (intKind prog w) Dc.toList:=(Kg.push tI y5).perm rN
  have QI: ∀k',(decide (k'∈is)||decide (k'=i))=true↔ ∃e∈Dc.toList,(intKind prog w).is k' e.2=true:=mem_push_iff tI pL rN
  have Y1:(eQ (ei w) y7).fits Dc.size=true:=DB k1 k5
  refine ak (av ?_)
  refine ae (aF (show(eQ (ei w) y7).plain=true from rfl)) ?_
  refine ak ?_
  refine ae (hashByValue_scannable 8 y5) ?_
  refine av ?_
  refine ae (aF (show plainKind (Value.int i t)=true from rfl)) ?_
  refine ak (wpAny_storeSet_of ho hd ?_ (fits_of_scanBound (by delta scanBound;exact aX k5 (by decide))))
  obtain⟨WG,Zb⟩:=SetOf_store (knd:=intKind prog w) ho Ay hd UP QI (by delta scanBound;exact aX k5 (by decide)) Y1
  have Yt:(eQ (ei w) y7).tooFull=false:=by
   delta SetTable.tooFull SetTable.fill eQ
   simp;rw[k1];exact aX (Nat.mul_le_mul_right 5 k5) (by decide)
  refine ae Yt ?_
  refine av (av ?_)
  obtain⟨o',tw,Dj⟩:=Zb.objOf
  obtain rfl:=dZ WG tw
  refine h _ _ WG (fun b ob hb e=>(Heap.get?_update_other _ _ (Ne.symm hb)).trans e) ?_ ⟨Dc,_,y7,rfl,k1,k5,k3,k4⟩ _
  refine ae (az R8) ?_
  have GD:=Dj.intSetOf
  have e1:(fun k'=>decide (k'∈is)||decide (k'=i))=fun k'=>decide (k'∈is++[i]):=by funext k';simp
  rw[e1]at GD
  have e2:Dc.size=(is++[i]).length:=by refine k2.trans (ae hn ?_);simp
  rw[e2]at GD;exact GD
end
theorem ti:entryFor table "set.__iter__"=some Builtin.«frozenset.__iter__»:=
 entryFor_alias (id':="frozenset.__iter__") (by kernel_rfl) rfl (by decide+kernel) (by kernel_rfl)
theorem jD:Manifest.owners.lookup (String.ofList ['r', 'o', 't', 'a', 'r', 'e', 't', 'i', '_', 't', 'e', 's'].reverse)=some Manifest.sig_set_iterator:=by kernel_rfl
theorem da:PySem.Slot "set_iterator" "__next__" "set_iterator.__next__":=
 .of (owner:="set_iterator") (n:="__next__") (by refine(typeLookup_type ..).trans (ae builtinLookup_eq_fast ?_);kernel_rfl) (by decide+kernel) (by decide+kernel) (by decide+kernel)
   (by first|exact .inl (by decide+kernel)|exact .inr (by decide+kernel)) (by refine(isSubtype_type ..).trans ?_;kernel_rfl)
theorem gB:entryFor table "set_iterator.__next__"=some Builtin.«set_iterator.__next__»:=entryFor_of_tree (by kernel_rfl)
theorem f7(a:Value):argsOk "set_iterator.__next__" ⟨[a],[]⟩:=by
 refine ae (signature?_of (id:="set_iterator.__next__") (n:=['_', '_', 't', 'x', 'e', 'n', '_', '_']) (o:=['r', 'o', 't', 'a', 'r', 'e', 't', 'i', '_', 't', 'e', 's']) (by kernel_rfl) jD) ?_;kernel_rfl
theorem sS{α:Type}: ∀{l:List α}{i:Nat}(h:i<l.length),(l[i]::l.eraseIdx i).Perm l
 | [],_,h=>by simp at h
 |a::l,0,_=> .rfl
 |a::l,i+1,h=>by
  exact(List.Perm.swap _ _ _).trans ((sS (by simpa using h)).cons a)
theorem Ch{α:Type}(next:Nat→Nat): ∀(g9 k:Nat)(left:List α)(out:Array α),left.length=g9→(pickOrder.go next g9 k left out).toList.Perm (out.toList++left):=by
 intro l_
 induction l_ with
 |zero=>
  intro k left out h
  have:left=[]:=bM.mp h
  subst this;unfold pickOrder.go;simp
 |succ g9 ih=>
  intro k left out h
  unfold pickOrder.go
  have gG:next k % left.length<left.length:=Nat.mod_lt _ (h▸Nat.succ_pos _)
  refine ae (aq gG) ?_
  dsimp only
  refine(ih (k+1) _ _ (List.length_eraseIdx.trans ((aF gG).trans (aB (· - 1) h)))).trans ?_
  refine ae Array.toList_push (ae (bE ..) ?_)
  refine List.Perm.append_left _ ?_
  exact sS gG
theorem ta{α:Type}(next:Nat→Nat)(xs:Array α):(pickOrder next xs).toList.Perm xs.toList:=by
 have:=Ch next xs.size 0 xs.toList #[] (by simp)
 simpa [pickOrder]using this
noncomputable def lp(w:World)(a:Addr)(ep:Nat)(es:Array (Int×Value)):Array (Int×Value):=
 if w.params.followText "set-order" then pickOrder (w.params.setOrder a ep) es else es
theorem fM(w:World)(a:Addr)(ep:Nat)(es:Array (Int×Value)):(lp w a ep es).toList.Perm es.toList:=by
 unfold lp;split
 .exact ta _ _
 .exact .rfl
noncomputable def slotAt(w:World)(ps:Array Nat)(i:Nat):Nat:=if w.params.followText "set-order" then 0 else if i=0 then 0 else ps.getD (i-1) 0+1
section
variable{prog:Program}{w:World}{A:Around}{E:Value→Shared→Prop}{s:Shared}
theorem MI: ∀p:Fin 8,SetTable.below #[p.val] 0=0∧SetTable.below #[p.val] (p.val+1)=1:=by decide+kernel
theorem MH: ∀p q:Fin 8,p<q→SetTable.below #[p.val,q.val] 0=0∧SetTable.below #[p.val,q.val] (p.val+1)=1∧SetTable.below #[p.val,q.val] (q.val+1)=2:=by decide+kernel
theorem Ao{ps:Array Nat}(hz:ps.size≤2)(h8: ∀p∈ps.toList,p<8)(wR:ps.size=2→ps.getD 0 0<ps.getD 1 0){i:Nat}(hi:i≤ps.size):
 SetTable.below ps (if i=0 then 0 else ps.getD (i-1) 0+1)=i:=by
 match ps,hz,h8,wR,hi with
 |⟨[]⟩,_,_,_,hi=>
  have:i=0:=by simpa using hi
  subst this;rfl
 |⟨[p]⟩,_,h8,_,hi=>
  have hp:=h8 p (by simp)
  have:=MI ⟨p,hp⟩
  have Dk:i=0∨i=1:=by simp at hi;lia
  rcases Dk with rfl|rfl
  .exact this.1
  .exact this.2
 |⟨[p,q]⟩,_,h8,wR,hi=>
  have hp:=h8 p (by simp)
  have hq:=h8 q (by simp)
  have gG:p<q:=wR rfl
  have:=MH ⟨p,hp⟩ ⟨q,hq⟩ gG
  have Dk:i=0∨i=1∨i=2:=by simp at hi;lia
  rcases Dk with rfl|rfl|rfl
  .exact this.1
  .exact this.2.1
  .exact this.2.2
 |⟨_::_::_::_⟩,hz,_,_,_=>simp at hz
theorem xD{a:Addr}{o:Obj}{es:Array (Int×Value)}{ep:Nat}{ps:Array Nat}{i:Nat}(ho:s.heap.get? a=some o)(hd:o.data= .set es ep (eQ (ei w) ps))(pD:ps.size=es.size)(hz:es.size≤2)
 (h8: ∀p∈ps.toList,p<8) (wR:ps.size=2→ps.getD 0 0<ps.getD 1 0) (hi:i≤es.size) {Q:Option (Value×Nat)→Shared→Prop}
 (hq:Q ((lp w a ep es)[i]?.map fun e=>(e.2,slotAt w ps (i+1))) s):wpAny (model prog w) A (setNext a (slotAt w ps i) i ep) Q E s:=by
 have hf:(eQ (ei w) ps).fits es.size=true:=DB pD hz
 refine ak (wpAny_setState_of ho hd hf ?_)
 refine bb ((wpAny_askSetting (av ?_)))
 induction hb:w.params.followText "set-order" using ag with
 |true=>
  refine ae (aF hb) ?_
  refine ae (az (by simp)) ?_
  refine ak ?_
  refine ak (wpAny_setState_of ho hd hf ?_)
  refine bb ((wpAny_askSetting (av ?_)))
  refine Gx (aF hb) ?_
  refine ak (wpAny_askSetting (av ?_))
  refine av ?_
  have e1:lp w a ep es=pickOrder (w.params.setOrder a ep) es:=by exact aF hb
  have e2: ∀j,slotAt w ps j=0:=fun j=>by exact aF hb
  rw[e1,e2]at hq
  exact ae (e2 ..) hq
 |false=>
  refine(?_:wpAny _ _ (if w.params.followText "set-order"=true then _ else _) _ _ _)
  refine ae (az (by rw[hb];exact cA)) ?_
  have hl:ei w=true:=by unfold ei;exact ae hb rfl
  refine ae hl ?_
  refine ak (av (a:=PUnit.unit) ?_)
  refine av ?_
  have e1:lp w a ep es=es:=by exact(az (by rw[hb];exact cA))
  have e2: ∀j,slotAt w ps j=if j=0 then 0 else ps.getD (j-1) 0+1:=fun j=>by exact(az (by rw[hb];exact cA))
  have e3:=Ao (i:=i) (by exact ae pD hz) h8 wR (by exact ae pD hi)
  rw[e1,e2]at hq
  refine ae (e2 ..) ?_
  refine ae e3 ?_
  by_cases gG:i<es.size
  .have Dz:i<ps.size:=by exact ae pD gG
   refine ae (Array.getElem?_eq_getElem gG) (ae (Array.getElem?_eq_getElem Dz) ?_)
   rw[Array.getElem?_eq_getElem gG]at hq
   simp only[Option.map_some,az (Nat.succ_ne_zero i),Nat.add_sub_cancel]at hq
   rw[Array.getD_eq_getD_getElem?,Array.getElem?_eq_getElem Dz]at hq
   exact hq
  .refine ae (Array.getElem?_eq_none (cG gG)) ?_
   rw[Array.getElem?_eq_none (cG gG)]at hq
   exact hq
theorem qg{a:Addr}{o:Obj}{es:Array (Int×Value)}{ep:Nat}{ps:Array Nat}(ho:s.heap.get? a=some o)(Ay:o.ExactSet)(hd:o.data= .set es ep (eQ (ei w) ps))(pD:ps.size=es.size)(hz:es.size≤2){Q:Value→Shared→Prop}
 (hQ:Q (.ref s.heap.objs.size) { s with heap:=s.heap.push { cls:= .type "set_iterator",data:= .fields #[rawInt 0,rawInt 0,.ref a,rawInt es.size,rawInt ep]}}):
 wpAny (model prog w) A (pyIter (.ref a)) Q E s:=by
 have hf:(eQ (ei w) ps).fits es.size=true:=DB pD hz
 have hT:s.TypeIs (.ref a) "set":=⟨o,ho,Ay.1⟩
 refine wpAny_pyIter_slot hT F.slot_set_iter (wpAny_call_entry F.slot_set_iter hT ti ?_ (F.args_set_iter_1 _))
 unfold Builtin.«frozenset.__iter__» Builtin.Frozenset.slot0 slotArgs
 simp only[List.isEmpty_nil,Bool.not_true,Bool.false_eq_true, ↓reduceIte,bind_assoc,List.length_nil,bne_self_eq_false]
 refine pb (?_)
 try dsimp only
 refine pb (?_)
 refine bb ((wpAny_setEntries_of ho hd hf (av ?_)))
 refine bb ((wpAny_setState_of ho hd hf ?_))
 refine bb ((wpAny_askSetting (av ?_)))
 refine av ?_
 rw[az (fun h=>by
  have h2:=(aU _ _).mp h |>.2
  exact absurd h2 (show ¬(false=true) by decide))]
 refine pb (?_)
 refine ak (wpAny_setEpoch_of ho hd hf ?_)
 refine ak (wpAny_newObj_type (av ⟨_,rfl,"set_iterator",_,⟨_,bt _ rfl,rfl⟩,da.lookup,?_⟩))
 exact hQ
noncomputable def gz(w:World)(h:Heap)(it a:Addr)(ps:Array Nat)(i n ep:Nat):Prop:= ∃o,h.get? it=some o∧o.cls= .type "set_iterator"∧o.data= .fields #[rawInt (slotAt w ps i),rawInt i,.ref a,rawInt n,rawInt ep]
theorem lB{it a:Addr}{o:Obj}{es:Array (Int×Value)}{ep:Nat}{ps:Array Nat}{i:Nat}{e:Int×Value}(I4:gz w s.heap it a ps i es.size ep)(ho:s.heap.get? a=some o)(hd:o.data= .set es ep (eQ (ei w) ps))
 (pD:ps.size=es.size) (hz:es.size≤2) (h8: ∀p∈ps.toList,p<8) (wR:ps.size=2→ps.getD 0 0<ps.getD 1 0) (hx:(lp w a ep es)[i]? =some e) {Q:Option Value→Shared→Prop}
 (hQ: ∀h',gz w h' it a ps (i+1) es.size ep→Heap.SameBut it s.heap h'→Q (some e.2) { s with heap:=h' }):wpAny (model prog w) A (pyNext (.ref it)) Q E s:=by
 obtain⟨oi,I0,R6,Kh⟩:=id I4
 have hT:s.TypeIs (.ref it) "set_iterator":=⟨oi,I0,R6⟩
 have hf:(eQ (ei w) ps).fits es.size=true:=DB pD hz
 have f':i<es.size:=by
  have h1:=(Array.getElem?_eq_some_iff.mp hx).1
  have h2:=(fM w a ep es).length_eq
  simp at h2;lia
 unfold pyNext
 refine ak (wpAny_attempt (wpAny_callSpecial?_slot (name:=Str.ofString "__next__") hT da
  (wpAny_call_entry da hT gB ?_ (f7 _))))
 refine ak (av ?_)
 refine ak (wpAny_fieldsOf I0 Kh ?_)
 refine ak (wpAny_setEntries_of ho hd hf ?_)
 refine ae (az (by simp)) ?_
 refine(?_:wpAny _ _ (setNext a (Int.toNat (slotAt w ps i)) (Int.toNat i) (Int.toNat ep) >>= _) _ _ _)
 refine ae (bJ ..) (ae (bJ ..) (ae (bJ ..) ?_))
 refine ak (xD ho hd pD hz h8 wR (by exact ca ‹_›) ?_)
 refine ae hx ?_
 refine ak (wpAny_setField I0 Kh (by simp) ?_)
 have g1:=Heap.get?_update_self (Obj.mapFields (·.setIfInBounds 0 (rawInt (slotAt w ps (i+1))))) I0 (Obj.isFreed_of_fields (Obj.data_mapFields Kh _))
 have d1:=Obj.data_mapFields Kh (·.setIfInBounds 0 (rawInt (slotAt w ps (i+1))))
 refine ak (wpAny_setField (s:={ s with heap:=s.heap.update it (Obj.mapFields (·.setIfInBounds 0 (rawInt (slotAt w ps (i+1)))))}) g1 d1 (by simp) ?_)
 have g2:=Heap.get?_update_self (Obj.mapFields (·.setIfInBounds 1 (rawInt ((i:Int)+1)))) g1 (Obj.isFreed_of_fields (Obj.data_mapFields d1 _))
 have d2:=Obj.data_mapFields d1 (·.setIfInBounds 1 (rawInt ((i:Int)+1)))
 refine av ⟨_,rfl,av (hQ _ ⟨_,g2,?_,?_⟩ ((Heap.SameBut.update ..).trans (Heap.SameBut.update ..)))⟩
 .exact(Obj.cls_mapFields ..).trans ((Obj.cls_mapFields ..).trans R6)
 .refine d2.trans ?_;simp[rawInt]
theorem mq{it a:Addr}{o:Obj}{es:Array (Int×Value)}{ep:Nat}{ps:Array Nat}{i:Nat}(hh:A.handled=none)(I4:gz w s.heap it a ps i es.size ep)(ho:s.heap.get? a=some o)(hd:o.data= .set es ep (eQ (ei w) ps))
 (pD:ps.size=es.size) (hz:es.size≤2) (h8: ∀p∈ps.toList,p<8) (wR:ps.size=2→ps.getD 0 0<ps.getD 1 0) (hi:i=es.size) {Q:Option Value→Shared→Prop}
 (hQ: ∀h',Heap.ExtBut it s.heap h'→Q none { s with heap:=h' }):wpAny (model prog w) A (pyNext (.ref it)) Q E s:=by
 obtain⟨oi,I0,R6,Kh⟩:=id I4
 have hT:s.TypeIs (.ref it) "set_iterator":=⟨oi,I0,R6⟩
 have hf:(eQ (ei w) ps).fits es.size=true:=DB pD hz
 have hx:(lp w a ep es)[i]? =none:=by
  have h2:=(fM w a ep es).length_eq
  simp at h2
  exact Array.getElem?_eq_none (by lia)
 unfold pyNext
 refine ak (wpAny_attempt (wpAny_callSpecial?_slot (name:=Str.ofString "__next__") hT da
  (wpAny_call_entry da hT gB ?_ (f7 _))))
 refine ak (av ?_)
 refine ak (wpAny_fieldsOf I0 Kh ?_)
 refine ak (wpAny_setEntries_of ho hd hf ?_)
 refine ae (az (by simp)) ?_
 refine(?_:wpAny _ _ (setNext a (Int.toNat (slotAt w ps i)) (Int.toNat i) (Int.toNat ep) >>= _) _ _ _)
 refine ae (bJ ..) (ae (bJ ..) (ae (bJ ..) ?_))
 refine ak (xD ho hd pD hz h8 wR (by exact c6 ‹_›) ?_)
 refine ae hx ?_
 refine ak (wpAny_setField I0 Kh (by simp) ?_)
 refine ak ?_
 refine ak (wpAny_newObj_type ?_ (by size_fits))
 refine ak (m:=firstArgMember _ _) (wpAny_of_eq (a:=Value.none) (by first|rfl|(rfl)) ?_)
 refine wpAny_newObj_type ?_ (by size_fits)
 refine ak (wpAny_handled ?_)
 refine ae (show A.in1.handled=none from hh) ?_
 refine pb ((wpAny_throw ?_))
 refine ak (wpAny_isInstance (T:="StopIteration") (b:=true) ⟨_,bt _ rfl,rfl⟩ isSubtype_stop ?_)
 exact av (hQ _ (((Heap.SameBut.update ..).extBut.push _).push _))
end
section
variable{prog:Program}{w:World}{A:Around}{E:Value→Shared→Prop}{s:Shared}
theorem gX:PySem.Slot "set_iterator" "__iter__" "set_iterator.__iter__":=
 .of (owner:="set_iterator") (n:="__iter__") (by refine(typeLookup_type ..).trans (ae builtinLookup_eq_fast ?_);kernel_rfl) (by decide+kernel) (by decide+kernel) (by decide+kernel)
   (by first|exact .inl (by decide+kernel)|exact .inr (by decide+kernel)) (by refine(isSubtype_type ..).trans ?_;kernel_rfl)
theorem kF:entryFor table "set_iterator.__iter__"=some Builtin.«dict_keyiterator.__iter__»:=
 entryFor_alias (id':="dict_keyiterator.__iter__") (by kernel_rfl) rfl (by decide+kernel) (by kernel_rfl)
theorem lg(a:Value):argsOk "set_iterator.__iter__" ⟨[a],[]⟩:=by
 refine ae (signature?_of (id:="set_iterator.__iter__") (n:=['_', '_', 'r', 'e', 't', 'i', '_', '_']) (o:=['r', 'o', 't', 'a', 'r', 'e', 't', 'i', '_', 't', 'e', 's']) (by kernel_rfl) jD) ?_;kernel_rfl
theorem FV{r:Addr}{Q:Bool→Shared→Prop}(hT:s.TypeIs (.ref r) "set")(h:Q false s):wpAny (model prog w) A (Builtin.List.listLengthHint (.ref r)) Q E s:=by
 refine ak (wpAny_specialOf hT PySem.F.slot_set_len.lookup ?_)
 generalize R3:("set.__len__":String)=Yi
 wp_delta
 rw[show splitId Yi=some ("set","__len__")from by subst R3;decide+kernel]
 subst R3
 refine ak (wpAny_isInstance (T:="set") (b:=true) hT (by refine(isSubtype_type ..).trans ?_;kernel_rfl) ?_)
 refine wpAny_ite_split (fun M8=>absurd M8 (by decide)) (fun Y=>?_)
 refine wpAny_ite_split (fun Y=>?_) (fun M8=>absurd (by decide+kernel) M8)
 refine ak (wpAny_typeOf hT ?_)
 exact av h
theorem gz.at{h h':Heap}{it a:Addr}{ps:Array Nat}{i n ep:Nat}(x:gz w h it a ps i n ep)(hk: ∀o,h.get? it=some o→h'.get? it=some o):gz w h' it a ps i n ep:=
 by obtain⟨o,a,b⟩:=x;exact⟨o,hk o a,b⟩
theorem s9{it a:Addr}{ps:Array Nat}{i n ep:Nat}{Q:Value→Shared→Prop}(I4:gz w s.heap it a ps i n ep)(h:Q (.ref it) s):wpAny (model prog w) A (pyIter (.ref it)) Q E s:=by
 obtain⟨o,ho,hc,hd⟩:=I4
 have hT:s.TypeIs (.ref it) "set_iterator":=⟨o,ho,hc⟩
 refine wpAny_pyIter_slot hT gX (wpAny_call_entry gX hT kF ?_ (lg _))
 exact av ⟨_,rfl,"set_iterator",_,hT,da.lookup,h⟩
theorem Lu{a:Addr}{o:Obj}{es:Array (Int×Value)}{ep:Nat}{ps:Array Nat}(Ay:o.ExactSet)(hd:o.data= .set es ep (eQ (ei w) ps))(pD:ps.size=es.size)(hz:es.size≤2)(h8: ∀p∈ps.toList,p<8)(wR:ps.size=2→ps.getD 0 0<ps.getD 1 0):
 KdlSrc prog w "set" a a es.size (fun i v=> ∃e,(lp w a ep es)[i]? =some e∧v=e.2) (fun h=>h.get? a=some o) where
 type:=fun s ok=>⟨o,ok,Ay.1⟩
 there:=fun h ok=>⟨cr ok,cr ok⟩
 keep:=fun h h' ok hk=>hk a (.inl rfl) o ok
 notList:=by decide+kernel
 notTuple:=by decide+kernel
 hint:=fun A E s Q ok h=>FV ⟨o,ok,Ay.1⟩ h
 iter:=fun A s hh ok=>by
  have Zf:a≠s.heap.objs.size:=dq (cr ok)
  refine⟨{ cls:= .type "set_iterator",data:= .fields #[rawInt 0,rawInt 0,.ref a,rawInt es.size,rawInt ep]},fun i h=>gz w h s.heap.objs.size a ps i es.size ep∧h.get? a=some o,fun E Q hQ=>?_,?_,?_⟩
  .exact qg ok Ay hd pD hz hQ
  .refine⟨fun b hb=>by simp at hb;simp[hb],fun i h h' st hk=>⟨st.1.at fun o e=>hk _ (by simp) o e,hk a (by simp) o st.2⟩,?_,?_,fun i s Q E st h=>s9 st.1 h⟩
   .intro i s' Q E hi st hQ
    have gh:=(fM w a ep es).length_eq
    have gG:i<(lp w a ep es).size:=by simp at gh;lia
    obtain⟨e,he⟩: ∃e,(lp w a ep es)[i]? =some e:=⟨_,Array.getElem?_eq_getElem gG⟩
    refine lB st.1 st.2 hd pD hz h8 wR he fun h' Hd Db=>?_
    refine hQ e.2 h' s'.toks ⟨e,he,rfl⟩ ⟨Hd,(Db.2 a Zf).trans st.2⟩ fun b ob hb e=>?_
    simp only[cj]at hb
    exact(Db.2 b hb).trans e
   .intro s' Q E st hQ
    refine mq hh st.1 st.2 hd pD hz h8 wR rfl fun h' UN=>?_
    exact hQ h' s'.toks fun b ob hb e=>UN b ob (by simpa using hb) e
  .refine⟨⟨_,bt _ rfl,rfl,?_⟩,bq _ ok⟩
   have:slotAt w ps 0=0:=by unfold slotAt;split<;>rfl
   exact ae this rfl
end
noncomputable def oH(w:World)(o:Obj)(is:List Int):Prop:=o.IntSetOf (fun k=>decide (k∈is)) is.length∧K5 w o∧is.Nodup∧is.length≤2
theorem EY{is ks:List Int}(hn:is.Nodup)(hz:is.length≤2)(hl:ks.length=is.length)(hm: ∀k,k∈is↔k∈ks):ks.Perm is:=by
 have un: ∀{a b:Int},a∈[b]→a=b:=fun q=>cj.mp q
 induction is using aO with
 |nil=>exact(bM.mp hl)▸ .rfl
 |cons a is=>
  induction is using aO with
  |nil=>
   obtain⟨b,rfl⟩:=List.length_eq_one_iff.mp hl
   exact un ((hm a).mp (.head _))▸ .rfl
  |cons b is=>
   obtain rfl:is=[]:=bM.mp (Nat.le_zero.mp (bf (bf hz)))
   obtain⟨c,ks,rfl⟩:=List.exists_cons_of_length_eq_add_one hl
   obtain⟨d,rfl⟩:=List.length_eq_one_iff.mp (Nat.succ.inj hl)
   have M8:a≠b:=fun e=>(bC.mp hn).1 (e▸ .head _)
   have h1:=(hm a).mp (.head _)
   have h2:=(hm b).mp (.tail _ (.head _))
   clear hn hm hz hl
   rcases aA.mp h1 with rfl|h1
   .rcases aA.mp h2 with rfl|h2
    .exact absurd rfl M8
    .exact un h2▸ .rfl
   .obtain rfl:=un h1
    rcases aA.mp h2 with rfl|h2
    .exact List.Perm.swap ..
    .exact absurd (un h2).symm M8
section
variable{prog:Program}{w:World}{A:Around}{E:Value→Shared→Prop}{s:Shared}
theorem ua{Q₁:Value→Shared→Prop}
 (h:Q₁ (.ref s.heap.objs.size) { s with heap:=s.heap.push { cls:= .type "set",dict:=none,data:= .set #[] 0 (eQ (ei w) #[])}}):
 codeAny (model prog w) A (.call (.builtin "set.__new__") ⟨[.type "set"],[]⟩) (wants Q₁ E) s:=by
 refine codeAny_of_tree ?_
 refine ak (wpAny_of_eq F.newCall_set_0 (av ⟨plainId_quiet F.plain_set_new _,codeAny_builtin F.entry_set_new ?_⟩))
 refine ae (Around.under_plainId F.plain_set_new _) ?_
 have zj:=sub_set_self
 obtain⟨hp,g,d,tk,os⟩:=s
 wp_walk
 refine wpAny_askSetting (av ?_)
 refine ak (wpAny_alloc (av ?_))
 exact av h
set_option maxHeartbeats 1000000 in
theorem yU{Q:Value→Shared→Prop}(h:Q (.ref s.heap.objs.size) { s with heap:=s.heap.push { cls:= .type "set",dict:=none,data:= .set #[] 0 (eQ (ei w) #[])}}):
 wpAny (model prog w) A (call (.type "set") []) Q E s:=by
 obtain⟨c,tl,ZJ⟩:=F.called_set.mro
 have Xj:=F.called_set.made
 have zj:=F.called_set.sub
 refine wpAny_call (codeAny_of_tree ?_)
 refine av ⟨Code.quiet_builtin _ (by decide+kernel),codeAny_builtin F.entry_type_call ?_⟩
 refine ae (Around.under_plain (weight_type_call_type "set" [] []) rfl) ?_
 have h1:=F.called_set.notType
 have h2:=F.called_set.canCreate
 have y':=F.typeCall_set_0
 repeat (any_goals (first|assumption|wp_step))
 refine codeAny_mono (ua (E:=E) (Q₁:=fun Wn bk=>Wn= .ref s.heap.objs.size∧bk={ s with heap:=s.heap.push { cls:= .type "set",dict:=none,data:= .set #[] 0 (eQ (ei w) #[])}}) ⟨rfl,rfl⟩) fun r bk hr=>?_
 cases r with
 |error e=>exact hr
 |ok fl=>
  induction fl using Flow.casesOn with
  |ret Wn=>
   obtain⟨rfl,rfl⟩:=hr
   have hS:(s.heap.push { cls:= .type "set",dict:=none,data:= .set #[] 0 (eQ (ei w) #[])}).get? s.heap.objs.size=some { cls:= .type "set",dict:=none,data:= .set #[] 0 (eQ (ei w) #[])}:=bt _ rfl
   have hT:Shared.TypeIs { s with heap:=s.heap.push { cls:= .type "set",dict:=none,data:= .set #[] 0 (eQ (ei w) #[])}} (.ref s.heap.objs.size) "set":=⟨_,hS,rfl⟩
   have Z7:=F.called_set.init.lookup
   have z':=F.called_set.init.bind (.ref s.heap.objs.size)
   repeat (any_goals (first|assumption|wp_step))
   refine codeAny_mono (codeAny_call_builtin (R:=wants (fun r d3=>r= .none∧Q (.ref s.heap.objs.size) d3) E) F.called_set.init.plain F.entry_set_init (check_set_init hT ?_)) fun r₂ d3 DZ=>?_
   .delta Builtin.«set.__init__» noKeywords
    wp_walk
    exact⟨rfl,h⟩
   .cases r₂ with
    |error e=>exact DZ
    |ok QV=>
     induction QV using Flow.casesOn with
     |ret r=>
      obtain⟨rfl,hq⟩:=DZ
      repeat (any_goals (first|assumption|wp_step))
     |_=>exact DZ.elim
  |_=>exact hr.elim
theorem qI:oH w { cls:= .type "set",dict:=none,data:= .set #[] 0 (eQ (ei w) #[])} []:=by
 refine⟨?_,⟨#[],0, #[],rfl,rfl,by simp,by simp,fun e=>by simp at e⟩,List.nodup_nil,by simp⟩
 rw[show(fun k:Int=>decide (k∈([]:List Int)))=fun Y=>false by funext k;simp]
 exact intSetOf_fresh _
theorem xE{a:Addr}{o:Obj}{is:List Int}{i:Int}{t:Tok}(ho:s.heap.get? a=some o)(hs:oH w o is)(hi:i∈is∨(is.length<2∧0≤i∧i<64)){Q:Bool→Shared→Prop}
 (h: ∀h' tk o',h'.get? a=some o'→(∀b ob,b≠a→s.heap.get? b=some ob→h'.get? b=some ob)→oH w o' (if i∈is then is else is++[i])→ ∀r,Q r { s with heap:=h',toks:=tk }):
 wpAny (model prog w) A (setAdd a (.int i t)) Q E s:=by
 refine wpAny_holding (ak ((intKind prog w).pyHash (intKind_is _ _ _ _) ?_))
 refine HA (s:={ s with toks:=s.toks+1 }) ho hs.1 hs.2.1 hi fun h' o' tw hk Dk hx r=>?_
 refine h h' _ o' tw hk ⟨Dk,hx,?_,?_⟩ r
 .split
  .exact hs.2.2.1
  .rename_i q
   refine List.nodup_append.mpr ⟨hs.2.2.1,by simp,fun x hx y hy=>?_⟩
   simp at hy;clear hi h Dk;subst hy;exact fun e=>q (e▸hx)
 .rcases hi with q|q
  .exact ae (aF q) hs.2.2.2
  .split
   .exact hs.2.2.2
   .simp;lia
theorem ub{a:Addr}{o:Obj}{is:List Int}{i:Int}{t:Tok}(ho:s.heap.get? a=some o)(hs:oH w o is)(hi:i∈is∨(is.length<2∧0≤i∧i<64)){Q:Value→Shared→Prop}
 (h: ∀h' tk o',h'.get? a=some o'→(∀b ob,b≠a→s.heap.get? b=some ob→h'.get? b=some ob)→oH w o' (if i∈is then is else is++[i])→Q .none { s with heap:=h',toks:=tk }):
 wpAny (model prog w) A (call (.builtin "set.add") [.ref a,.int i t]) Q E s:=by
 have hT:s.TypeIs (.ref a) "set":=⟨o,ho,(hs.1 prog w).1.1⟩
 refine wpAny_call_entry F.slot_set_add hT F.entry_set_add ?_ (F.args_set_add_2 _ _)
 delta Builtin.«set.add» Builtin.Frozenset.oneOther
 simp only[List.isEmpty_nil,bind_assoc]
 refine pb (?_)
 try dsimp only
 refine pb (?_)
 refine ak ?_
 refine xE ho hs hi fun h' tk o' tw hk Dj r=>?_
 exact av ⟨_,rfl,h h' tk o' tw hk Dj⟩
theorem CK{K:Frag}{env:Env}{e:Expr}{k:Nat}{pos:Pos}{Q:Value→Shared→Prop}(X:K.In s.heap)(hc:kdsCode K env.code=true)(QE:displayRoad k [e]= .oneByOne)(hp:kdsPlain e=true)
 (h:wpAny (model prog w) A (eval e env) (fun v bk=> ∃o i t,v= .int i t∧bk.heap.get? s.heap.objs.size=some o∧oH w o []∧0≤i∧i<64∧
   ∀h' tk o',h'.get? s.heap.objs.size=some o'→(∀b ob,b≠s.heap.objs.size→bk.heap.get? b=some ob→h'.get? b=some ob)→oH w o' [i]→Q (.ref s.heap.objs.size) { bk with heap:=h',toks:=tk }) E
   { s with heap:=s.heap.push { cls:= .type "set",dict:=none,data:= .set #[] 0 (eQ (ei w) #[])}}):
 wpAny (model prog w) A (eval (.Set [e] k pos) env) Q E s:=by
 refine ae (arm_eval_Set ..) ?_
 refine ak (wpAny_standAt ?_)
 refine ak (kds_main X hc fun b=>?_)
 refine ae (kds_star [e] (by simp[hp])) (ae List.map_map (ae QE ?_))
 delta setDisplay
 refine ae (az (by decide)) ?_
 refine ak ?_
 refine bb ((wpAny_askSetting (av ?_)))
 refine ak (wpAny_alloc (av ?_))
 refine hb (?_)
 refine ae (arm_evalEach_cons ..) ?_
 refine ak ?_
 refine bb ((wm h (fun v bk aP=>?_)))
 refine ak (wpAny_standAt (av ?_))
 refine hb ((av ?_))
 refine av ?_
 obtain⟨o,i,t,rfl,ho,hs,h0,R9,hq⟩:=aP
 refine hb (?_)
 refine ak ?_
 refine bb ((xE ho hs (.inr ⟨by simp,h0,R9⟩) fun h' tk o' tw hk Dj r=>?_))
 refine av ?_
 refine av ?_
 refine Gx (az (by decide)) ?_
 refine av ?_
 refine ak ?_
 refine Gx List.forIn_nil ?_
 refine av ?_
 refine av ?_
 refine av ?_
 exact hq h' tk o' tw hk (by simpa using Dj)
end
theorem qL(i:Int): ∀(l:List Int),(jR i l).Perm (i::l):=by
 intro l_
 induction l_ with
 |nil=>exact .rfl
 |cons j r ih=>
  unfold jR
  split
  .exact .rfl
  .exact((ih).cons j).trans (List.Perm.swap ..)
theorem sortI_perm: ∀l:List Int,(sortI l).Perm l:=by
 intro l_
 induction l_ with
 |nil=>exact .rfl
 |cons i r ih=>exact(qL i (sortI r)).trans ((ih).cons i)
theorem te(i:Int): ∀{l:List Int},l.Pairwise (· ≤ ·)→(jR i l).Pairwise (· ≤ ·):=by
 intro l_
 induction l_ with
 |nil=>intro _;simp[jR]
 |cons j r ih=>
  intro h
  rw[List.pairwise_cons]at h
  unfold jR
  split
  .rename_i q
   rw[List.pairwise_cons]
   refine⟨fun x hx=>?_,List.pairwise_cons.mpr h⟩
   rcases aA.mp hx with rfl|hx
   .exact q
   .exact Int.le_trans q (h.1 x hx)
  .rename_i q
   rw[List.pairwise_cons]
   refine⟨fun x hx=>?_,ih h.2⟩
   rcases aA.mp ((qL i r).mem_iff.mp hx)with rfl|hx
   .lia
   .exact h.1 x hx
theorem wh: ∀l:List Int,(sortI l).Pairwise (· ≤ ·):=by
 intro l_
 induction l_ with
 |nil=>simp[sortI]
 |cons i r ih=>exact te i (ih)
theorem tP{a b:List Int}(hp:a.Perm b)(ha:a.Pairwise (· ≤ ·))(hb:b.Pairwise (· ≤ ·)):a=b:=
 hp.eq_of_pairwise (le:=(· ≤ ·)) (fun x y Y Y h1 h2=>Int.le_antisymm h1 h2) ha hb
section
variable{prog:Program}{w:World}{A:Around}{E:Value→Shared→Prop}{s:Shared}
theorem qK{e:Int×Value}{k:Int}(h:(intKind prog w).is k e.2=true): ∃t,e.2= .int k t:=by
 generalize e.2=v at h
 cases v with
 |int i t=>exact⟨t,by have:i=k:=by simpa [intKind,Value.isInt]using h
                      exact ae this rfl⟩
 |_=>simp[intKind,Value.isInt]at h
theorem wC{a:Addr}{o:Obj}{is:List Int}(hh:A.handled=none)(ho:s.heap.get? a=some o)(hs:oH w o is){Q:Value→Shared→Prop}
 (h: ∀h' tk D(out:Array Value) e,IntsAre out.toList (sortI is)→h'.get? D=some (listOf out e)→s.heap.get? D=none→(∀b ob,s.heap.get? b=some ob→h'.get? b=some ob)→Q (.ref D) { s with heap:=h',toks:=tk }):
 wpAny (model prog w) A (call (.builtin "sorted") [.ref a]) Q E s:=by
 obtain⟨h1,⟨es,ep,ps,hd,pD,hz,h8,wR⟩,tz,gh⟩:=hs
 obtain⟨Ay,I6,W0,tt,lF,Kg,pL,hn,hf⟩:=h1 prog w
 rw[hd]at lF
 injection lF with q1 q2 q3
 subst q1;subst q2;subst q3
 refine call_function_entry kind_sorted plain_sorted entry_sorted (args_sorted1 _) ?_
 refine ak (m:=checkCount "sorted" 1 1 _) (av ?_)
 have NQ:(2000001:Nat)≤sizeLine:=by decide
 refine ak (kdu_collect (A:=A.in1) (Lu (prog:=prog) Ay hd pD hz h8 wR) hh ho (by exact af ‹_› (aa rfl)) fun h' tk acc hk wV=>?_)
 have JJ:acc.size=es.size∧ ∀(j:Nat)(v:Value),acc[j]? =some v→ ∃e:Int×Value,(lp w a ep es)[j]? =some e∧v=e.2:=⟨wV.1,wV.2⟩
 have hI: ∃ks,IntsAre acc.toList ks∧ks.Perm is:=by
  have e1:acc.toList=(lp w a ep es).toList.map (·.2):=by
   apply List.ext_getElem?
   intro j
   refine ae (bA) ?_
   have JF:=(fM w a ep es).length_eq
   simp at JF
   by_cases q:j<acc.size
   .have:=JJ.2 j acc[j] (Array.getElem?_eq_getElem q)
    obtain⟨e,he,hv⟩:=this
    refine(Array.getElem?_toList).trans (ae (Array.getElem?_toList) ((Array.getElem?_eq_getElem q).trans (ae he (ae hv ?_))));rfl
   .refine(Array.getElem?_toList).trans (ae (Array.getElem?_toList) ((Array.getElem?_eq_none (by exact cG ‹_›)).trans (ae (Array.getElem?_eq_none (by rw[JF];exact JJ.1▸Nat.not_lt.mp q)) ?_)));rfl
  have key: ∀l:List (Int×Value),ElemsOf (intKind prog w) l→ ∃ks,IntsAre (l.map (·.2)) ks∧ks.length=l.length∧ ∀k,k∈ks↔ ∃e∈l,(intKind prog w).is k e.2=true:=by
   intro l hl
   induction l with
   |nil=>exact⟨[],IntsAre.nil,rfl,fun k=>by simp⟩
   |cons e l ih=>
    obtain⟨ks,i1,i2,i3⟩:=ih hl.tail
    obtain⟨⟨k,hk,_⟩,_⟩:=hl.head
    clear hl;obtain⟨t,ht⟩:=qK hk
    refine⟨k::ks,?_,by simp[i2],fun k'=>?_⟩
    .exact ae bv (ae ht (IntsAre.cons _ _ i1))
    ·(refine aA.trans ?_;rw[i3])
     constructor
     .rintro(rfl|⟨e',he,hq⟩)
      .exact⟨e,.head _,hk⟩
      .exact⟨e',.tail _ he,hq⟩
     .clear hk;rintro⟨e',he,hq⟩
      rcases aA.mp he with rfl|he
      .obtain⟨t',MY⟩:=qK hq
       rw[ht]at MY;clear hq;cases MY;exact .inl rfl
      .exact .inr ⟨e',he,hq⟩
  obtain⟨ks,i1,i2,i3⟩:=key _ (Kg.perm (fM w a ep es))
  refine⟨ks,by refine ae e1 ?_;exact i1,EY tz gh ?_ fun k=>?_⟩
  .refine i2.trans (((fM w a ep es).length_eq).trans ?_);simpa using hn
  .rw[i3]
   have:k∈is↔decide (k∈is)=true:=by simp
   refine this.trans ((pL ..).trans ?_)
   constructor
   .rintro⟨e,he,hq⟩;exact⟨e,(fM w a ep es).mem_iff.mpr he,hq⟩
   .rintro⟨e,he,hq⟩;exact⟨e,(fM w a ep es).mem_iff.mp he,hq⟩
 obtain⟨ks,hI,rN⟩:=hI
 have hl:acc.toList.length=es.size:=by exact Array.length_toList.trans wV.1
 refine ak (wpAny_newList ?_)
 have Td:(h'.push (seqObj "list" acc.toList.toArray 0)).get? h'.objs.size=some (seqObj "list" acc.toList.toArray 0):=bt _ rfl
 refine ak (wpAny_holding (wpAny_call_entry slot_list_sort ⟨_,Td,rfl⟩ entry_list_sort (list_sort_tree Td hI (by rw[‹acc.toList.length=es.size›,hn];exact aX gh (by decide)) fun out X7 a1 a2 a3=>⟨_,rfl,?_⟩) (args_list_sort _)))
 refine av ⟨_,rfl,?_⟩
 have e:X7=sortI is:=tP (a2.trans (rN.trans (sortI_perm is).symm)) a3 (wh is)
 subst e
 have QH:s.heap.get? h'.objs.size=none:=by
  induction q:s.heap.get? h'.objs.size using ab with
  |none=>rfl
  |some ob=>exact absurd (cr (hk _ _ q)) (Nat.lt_irrefl _)
 have iG:=sortedHeap_at (out:=out) Td
 obtain⟨e,he⟩:=iG
 refine h _ _ _ out e a1 he QH fun b ob hb=>?_
 have GI:=hk b ob hb
 refine(sortedHeap_old (dq (cr GI)) (by rw[size_push'];exact Nat.lt_succ_of_lt (cr GI))).trans ?_
 exact bq _ GI
end
noncomputable abbrev FH:=Addr→Option Obj
noncomputable def dG(F G:FH):Prop:= ∀a o,F a=some o→G a=some o
theorem dG.refl(F:FH):dG F F:=fun Y Y h=>h
theorem dG.trans{F G H:FH}(a:dG F G)(b:dG G H):dG F H:=fun x o h=>b x o (a x o h)
structure ey(A:Around)(n:Nat):Prop where
 hh:A.handled=none
 dp:A.depth+n<900
 un:A.units+10*n<9000
theorem ey.le{A:Around}{n m:Nat}(x:ey A n)(h:m≤n):ey A m:=⟨x.hh,by have:=x.dp;exact V7 ‹_› ‹_›,by have:=x.un;exact Xv ‹_› ‹_›⟩
theorem ey.deeper{A:Around}{n:Nat}{env:Env}(x:ey A (n+1)):ey (A.deeper env) n:=⟨x.hh,by have:=x.dp;refine(?_:A.depth+1+n<900);exact V5 ‹_›,by have:=x.un;refine(?_:A.units+3+10*n<9000);exact V6 (by decide) ‹_›⟩
noncomputable def gk:Value→Option Str
 | .str x _=>some x
 |_=>none
section
variable(prog:Program)(w:World)
noncomputable def mJ(F:FH)(v:Value)(g:Int→Int→Option Int):Prop:=
 ∀(A:Around)(s:Shared)(x y r:Int)(tx ty:Tok)(Q E:Value→Shared→Prop),ey A 20→(∀a o,F a=some o→s.heap.get? a=some o)→g x y=some r→
  (∀h' n9 t,(∀b o,s.heap.get? b=some o→h'.get? b=some o)→Q (.int r t) { s with heap:=h',toks:=n9 })→
  wpAny (model prog w) A (call v [.int x tx,.int y ty]) Q E s
noncomputable def rL:List Int→List Value→Int→Option Value
 | [],_,_=>none
 |k::ks,vs,i=>(match vs with| []=>none|v::vs=>if i=k then some v else rL ks vs i)
noncomputable def Sh(cJ:FH)(t:MV)(v:Value)(vs:List Value):Prop:=match t with
 | .none=>v= .none∧vs=[]
 | .bool b=>v= .bool b∧vs=[]
 | .int i=>(∃t,v= .int i t)∧vs=[]
 | .str x=>(∃t,v= .str x t)∧vs=[]
 | .tup _=> ∃a n,v= .ref a∧cJ a=some { cls:= .type "tuple",data:= .seq vs.toArray n }
 | .list _=> ∃a n,v= .ref a∧cJ a=some (listOf vs.toArray n)∧vs.length≤2000000
 | .range lo hi st=>(∃a t u x,v= .ref a∧cJ a=some { cls:= .type "range",dict:=none,data:= .fields #[.int lo t,.int hi u,.int st x],slots:= #[]})∧(eu lo&&eu hi)=true∧vs=[]
 | .set is=>(∃a o,v= .ref a∧cJ a=some o∧oH w o is)∧vs=[]
 | .dict n ks _=> ∃a o gt,v= .ref a∧cJ a=some o∧o.IsDictOf (intKind prog w) gt∧gt.map (·.1)=ks∧gt.map (·.2)=vs∧gt.length≤n
 | .inst C ns _=> ∃a d es n,v= .ref a∧cJ a=some (instObj C d)∧cJ d=some (dictOf es n)∧es.map (fun e=>gk e.key)=ns.map some∧vs=es.map (·.val)
 | .fn g=>(∃a o fd,v= .ref a∧cJ a=some o∧o.data= .func fd)∧mJ prog w cJ v g∧vs=[]
noncomputable def Ok(t:MV):List MV:=match t with
 | .tup ts=>ts
 | .list ts=>ts
 | .dict _ _ ts=>ts
 | .inst _ _ ts=>ts
 | .none=>[]
 | .bool _=>[]
 | .int _=>[]
 | .str _=>[]
 | .range _ _ _=>[]
 | .set _=>[]
 | .fn _=>[]
inductive vH(R:MV→Value→Prop):List MV→List Value→Prop
 |nil:vH R [] []
 |cons {t ts v vs} (a:R t v) (b:vH R ts vs):vH R (t::ts) (v::vs)
inductive VR(F:FH):MV→Value→Prop
 |mk {t v vs} (h:Sh prog w F t v vs) (k:vH (VR F) (Ok t) vs):VR F t v
noncomputable abbrev dm(F:FH):List MV→List Value→Prop:=vH (VR prog w F)
noncomputable def f0(F cJ:FH)(t:MV)(v:Value):Prop:= ∃vs,Sh prog w cJ t v vs∧dm prog w F (Ok t) vs
variable{prog w}
theorem dO{F:FH}{t:MV}{v:Value}:VR prog w F t v↔f0 prog w F F t v:=⟨fun h=>VR.casesOn h fun h k=>⟨_,h,k⟩,fun h=>h.elim fun Y h=> .mk h.1 h.2⟩
theorem mJ.mono{F G:FH}(h:dG F G){v:Value}{g:Int→Int→Option Int}(x:mJ prog w F v g):mJ prog w G v g:=
 fun A s x' y r tx ty Q E ha hk hg hq=>x A s x' y r tx ty Q E ha (fun a o e=>hk a o (h a o e)) hg hq
theorem Sh.mono{F G:FH}(h:dG F G){t:MV}{v:Value}{vs:List Value}(x:Sh prog w F t v vs):Sh prog w G t v vs:=by
 induction t using MV.casesOn with
 |none|bool|int|str=>exact x
 |tup=>obtain⟨a,n,e,ho⟩:=x;exact⟨a,n,e,h a _ ho⟩
 |list=>obtain⟨a,n,e,ho,r⟩:=x;exact⟨a,n,e,h a _ ho,r⟩
 |range=>obtain⟨⟨a,t,u,y,e,ho⟩,r⟩:=x;exact⟨⟨a,t,u,y,e,h a _ ho⟩,r⟩
 |set=>obtain⟨⟨a,o,e,ho,q⟩,r⟩:=x;exact⟨⟨a,o,e,h a _ ho,q⟩,r⟩
 |dict=>obtain⟨a,o,gt,e,ho,r⟩:=x;exact⟨a,o,gt,e,h a _ ho,r⟩
 |inst=>obtain⟨a,d,es,n,e,ho,hd,r⟩:=x;exact⟨a,d,es,n,e,h a _ ho,h d _ hd,r⟩
 |fn=>obtain⟨⟨a,o,fd,e,ho,q⟩,c,r⟩:=x;exact⟨⟨a,o,fd,e,h a _ ho,q⟩,c.mono h,r⟩
theorem VR.mono{F G:FH}(h:dG F G){t:MV}{v:Value}(x:VR prog w F t v):VR prog w G t v:=
 VR.rec (motive_1:=fun t v Y=>VR prog w G t v) (motive_2:=fun ts vs Y=>dm prog w G ts vs) (fun a Y b=> .mk (a.mono h) b) .nil (fun Y Y a b=> .cons a b) x
theorem dm.mono{F G:FH}(h:dG F G){ts:List MV}{vs:List Value}(x:dm prog w F ts vs):dm prog w G ts vs:=by
 induction x with
 |nil=>exact .nil
 |cons a _ ih=>exact .cons (a.mono h) ih
theorem f0.mono{F G cJ qz:FH}(h:dG F G)(hl:dG cJ qz){t:MV}{v:Value}(x:f0 prog w F cJ t v):f0 prog w G qz t v:=
 x.elim fun vs x=>⟨vs,x.1.mono hl,dm.mono h x.2⟩
theorem VR.at{F cJ:FH}(h:dG F cJ){t:MV}{v:Value}(x:VR prog w F t v):f0 prog w F cJ t v:=(dO.mp x).mono (dG.refl F) h
theorem dm.length{F:FH}{ts:List MV}{vs:List Value}(x:dm prog w F ts vs):vs.length=ts.length:=by
 induction x with
 |nil=>rfl
 |cons _ _ ih=>exact aB (· +1) ih
theorem dm.get{F:FH}{ts:List MV}{vs:List Value}(x:dm prog w F ts vs){i:Nat}{t:MV}(h:ts[i]? =some t): ∃v,vs[i]? =some v∧VR prog w F t v:=by
 induction x generalizing i with
 |nil=>exact nn h
 |cons a _ ih=>
  induction i using Nat.casesOn with
  |zero=>exact⟨_,rfl,Option.some.inj h▸a⟩
  |succ i=>exact ih h
theorem dm.nil{F:FH}:dm prog w F [] []:=vH.nil
theorem dm.cons{F:FH}{t:MV}{ts:List MV}{v:Value}{vs:List Value}(a:VR prog w F t v)(b:dm prog w F ts vs):dm prog w F (t::ts) (v::vs):=vH.cons a b
theorem dm.lh{F:FH}{t:MV}{ts:List MV}{vs:List Value}(x:dm prog w F (t::ts) vs): ∃v lC,vs=v::lC∧VR prog w F t v∧dm prog w F ts lC:=by
 cases x with
 |cons a b=>exact⟨_,_,rfl,a,b⟩
theorem dm.none{F:FH}{vs:List Value}(x:dm prog w F [] vs):vs=[]:=List.eq_nil_of_length_eq_zero x.length
theorem dm.append{F:FH}{ts us:List MV}{vs ws:List Value}(x:dm prog w F ts vs)(y:dm prog w F us ws):dm prog w F (ts++us) (vs++ws):=by
 induction x with
 |nil=>exact y
 |cons a _ ih=>exact .cons a ih
theorem dm.set{F:FH}{ts:List MV}{vs:List Value}{t:MV}{v:Value}(i:Nat)(x:dm prog w F ts vs)(y:VR prog w F t v):dm prog w F (ts.set i t) (vs.set i v):=by
 induction x generalizing i with
 |nil=>exact .nil
 |cons a b ih=>
  induction i using Nat.casesOn with
  |zero=>exact .cons y b
  |succ i=>exact .cons a (ih i)
theorem dm.take{F:FH}{ts:List MV}{vs:List Value}(i:Nat)(x:dm prog w F ts vs):dm prog w F (ts.take i) (vs.take i):=by
 induction x generalizing i with
 |nil=>rw[List.take_nil,List.take_nil];exact .nil
 |cons a _ ih=>
  induction i using Nat.casesOn with
  |zero=>exact .nil
  |succ i=>exact .cons a (ih i)
theorem dm.replicate{F:FH}{t:MV}{v:Value}(h:VR prog w F t v)(n:Nat):dm prog w F (List.replicate n t) (List.replicate n v):=by
 induction n with
 |zero=>exact .nil
 |succ n ih=>exact .cons h ih
theorem dm.dropLast{F:FH}{ts:List MV}{vs:List Value}(x:dm prog w F ts vs):dm prog w F ts.dropLast vs.dropLast:=by
 rw[List.dropLast_eq_take,List.dropLast_eq_take,x.length];exact x.take _
theorem dm.ints{F:FH}{ts:List MV}{vs:List Value}{is:List Int}(x:dm prog w F ts vs)(h:ints? ts=some is):IntsAre vs is:=by
 induction x generalizing is with
 |nil=>exact b8 h▸IntsAre.nil
 | @cons t _ _ _ a _ ih=>
   induction t using MV.casesOn with
   |int i=>
    obtain⟨js,h1,rfl⟩:=cu.mp h
    obtain⟨Y,⟨⟨u,rfl⟩,Y⟩,Y⟩:=dO.mp a
    exact IntsAre.cons _ _ (ih h1)
   |_=>exact nn h
end
structure Wd where
 prog:Program
 w:World
 K:Frag
 h₀:Heap
 mg:Str→Option Value
 mb:Str→Option Value
 X:K.In h₀
 g:h₀.Ns mainGlobals mg
 b:h₀.Ns builtinsNs mb
 nolimit:h₀.NoLimit
 builtins: ∀x:Str,x≠"__name__"→mb x=bootBuiltins x
noncomputable abbrev Wd.VR(D:Wd)(F:FH)(t:MV)(v:Value):Prop:=Mine.VR D.prog D.w F t v
noncomputable abbrev Wd.dm(D:Wd)(F:FH)(ts:List MV)(vs:List Value):Prop:=Mine.dm D.prog D.w F ts vs
noncomputable abbrev Wd.f0(D:Wd)(F cJ:FH)(t:MV)(v:Value):Prop:=Mine.f0 D.prog D.w F cJ t v
noncomputable def Slot.gC:Slot→Bool
 | .own _=>true
 | .cK _=>true
 |_=>false
noncomputable def Slot.dX:Slot→Bool
 | .own _=>true
 | .cK _=>true
 | .ro _=>true
 |_=>false
theorem Slot.dY{s:Slot}(h:s.gC=true):s.dX=true:=by induction s using Slot.casesOn<;>first|rfl|exact ew h
noncomputable abbrev RV:=fG→Option Value
noncomputable abbrev Me:=Option (Addr×Addr×Addr)
inductive kg(st:St)(rv:RV)(b:Addr):Prop where
 |mk (k:fG) (s:Slot) (h0:st.get k=some s) (h1:s.gC=true) (h2:rv k=some (.ref b))
inductive dh(st:St)(rv:RV)(b:Addr):Prop where
 |mk (k:fG) (s:Slot) (h0:st.get k=some s) (h1:s.dX=true) (h2:rv k=some (.ref b))
theorem kg.held{st:St}{rv:RV}{b:Addr}(h:kg st rv b):dh st rv b:=by obtain⟨k,s,a,b,c⟩:=h;exact⟨k,s,a,Slot.dY b,c⟩
noncomputable def j3(h:Heap)(v:Value):Prop:= ∀a,v= .ref a→ ∃o,h.get? a=some o∧o.dict=none
noncomputable def fS:MV→Bool
 | .list _=>true
 | .set _=>true
 | .dict _ _ _=>true
 |_=>false
theorem Sh.box{prog:Program}{w:World}{cJ qz:FH}{t:MV}{v:Value}{vs:List Value}(hb:fS t=true)(hs:Sh prog w cJ t v vs)(hk: ∀a o,v= .ref a→cJ a=some o→qz a=some o):Sh prog w qz t v vs:=by
 induction t using MV.casesOn with
 |list=>obtain⟨a,n,e,ho,r⟩:=hs;exact⟨a,n,e,hk a _ e ho,r⟩
 |set=>obtain⟨⟨a,o,e,ho,q⟩,r⟩:=hs;exact⟨⟨a,o,e,hk a _ e ho,q⟩,r⟩
 |dict=>obtain⟨a,o,gt,e,ho,r⟩:=hs;exact⟨a,o,gt,e,hk a _ e ho,r⟩
 |_=>exact ew hb
theorem f0.box{prog:Program}{w:World}{F F' cJ qz:FH}{t:MV}{v:Value}(hb:fS t=true)(hF:dG F F')(hs:f0 prog w F cJ t v)(hk: ∀a o,v= .ref a→cJ a=some o→qz a=some o):f0 prog w F' qz t v:=
 by obtain⟨vs,a,b⟩:=hs;exact⟨vs,a.box hb hk,dm.mono hF b⟩
noncomputable def nu(D:Wd)(F:FH)(h:Heap)(me:Me)(s:Slot)(v:Value):Prop:=match s with
 | .aw t=>D.VR F t v
 | .own t=>D.f0 F h.get? t v∧j3 h v∧fS t=true
 | .cK t=>D.f0 F h.get? t v∧j3 h v∧fS t=true
 | .ro t=>D.f0 F h.get? t v∧j3 h v∧fS t=true
 | .me C=> ∃i d,me=some (i,C,d)∧v= .ref i
noncomputable def j7(env:Env)(h:Heap)(x:Str)(v:Value):Prop:=
 (env.kindOf x=some .local→ ∃m,h.Ns env.locals m∧m x=some v)∧
 ((env.kindOf x=some .cell∨env.kindOf x=some .free)→ ∃c,env.cells.lookup x=some c∧h.IsCell c (some v))
noncomputable def vX(me:Me)(h:Heap)(x:Str)(v:Value):Prop:= ∀i C d,me=some (i,C,d)→ ∃es n,h.get? d=some (dictOf es n)∧getL x es=some (some v)
noncomputable def Hn(F:FH)(h:Heap)(me:Me):Prop:= ∀i C d,me=some (i,C,d)→h.get? i=some (instObj C d)∧F i=none∧F d=none∧ ∃es n,h.get? d=some (dictOf es n)
theorem u9: ∀{st bB:St},bB.map (·.1)=st.map (·.1)→d5 bB=d5 st
 | [],bB,h=>by exact ae (List.map_eq_nil_iff.mp h) rfl
 |(k,s)::r,[],h=>by cases h
 |(k,s)::r,(k',s')::r',h=>by
  simp only[bv,List.cons.injEq]at h
  obtain⟨rfl,h⟩:=h
  induction k' using fG.casesOn<;>simp only[d5,u9 h]
noncomputable def qF(st:St)(rv:RV)(h:Heap)(me:Me):Prop:=(st.map (·.1)).Nodup∧ ∀i C d,me=some (i,C,d)→ ∃es n,h.get? d=some (dictOf es n)∧es.map (fun e=>gk e.key)=(d5 st).map some∧es.map (fun e=>some e.val)=(d5 st).map fun x=>rv (.a x)
structure SR(D:Wd)(F:FH)(W:Addr→Prop)(env:Env)(rD:Me)(st:St)(rv:RV)(h:Heap):Prop where
 fz:dG F h.get?
 base:dG D.h₀.get? F
 wf: ∀a,W a→F a=none
 wx: ∀a,W a→ ∃o,h.get? a=some o
 sl: ∀k s,st.get k=some s→ ∃v,rv k=some v∧nu D F h rD s v
 held: ∀k s,st.get k=some s→s.dX=true→ ∃a,rv k=some (.ref a)∧F a=none∧ ¬W a∧ ∀i C d,rD=some (i,C,d)→a≠i∧a≠d
 dist: ∀k k' s s' a,st.get k=some s→st.get k'=some s'→s.gC=true→s'.dX=true→rv k=some (.ref a)→rv k'=some (.ref a)→k=k'
 As: ∀x v,rv (.v x)=some v→j7 env h x v
 Gu: ∀x v,rv (.a x)=some v→vX rD h x v
 me:Hn F h rD
 pw:W env.locals∧ ∀p∈env.cells,W p.2∨ ∃o,F p.2=some o
 ma:qF st rv h rD
 mw: ∀i C d,rD=some (i,C,d)→ ¬W i∧ ¬W d
 Bt: ∃m,h.Ns env.locals m
 tn: ∀p∈env.cells,∃v,h.IsCell p.2 v
section
variable{D:Wd}{F F':FH}{W:Addr→Prop}{env:Env}{me:Me}{st bB:St}{rv fx:RV}{h h':Heap}
theorem j7.mono{x:Str}{v:Value}(hk: ∀b o,h.get? b=some o→h'.get? b=some o)(p:j7 env h x v):j7 env h' x v:=
 ⟨fun e=>by obtain⟨m,a,b⟩:=p.1 e;exact⟨m,a.keeps hk,b⟩,fun e=>by obtain⟨c,a,b⟩:=p.2 e;exact⟨c,a,b.keeps hk⟩⟩
theorem vX.mono{x:Str}{v:Value}(hk: ∀b o,h.get? b=some o→h'.get? b=some o)(p:vX me h x v):vX me h' x v:=
 fun i C d e=>by obtain⟨es,n,a,b⟩:=p i C d e;exact⟨es,n,hk _ _ a,b⟩
theorem Hn.mono(hk: ∀b o,h.get? b=some o→h'.get? b=some o)(p:Hn F h me):Hn F h' me:=
 fun i C d e=>by obtain⟨a,b,c,es,n,q⟩:=p i C d e;exact⟨hk _ _ a,b,c,es,n,hk _ _ q⟩
theorem qF.mono(hk: ∀b o,h.get? b=some o→h'.get? b=some o)(p:qF st rv h me):qF st rv h' me:=
 ⟨p.1,fun i C d e=>by obtain⟨es,n,a,b⟩:=p.2 i C d e;exact⟨es,n,hk _ _ a,b⟩⟩
theorem qF.keys(hk:bB.map (·.1)=st.map (·.1))(p:qF st rv h me):qF bB rv h me:=by
 unfold qF;exact ae (u9 hk) (ae hk p)
theorem j3.mono{v:Value}(hk: ∀b o,h.get? b=some o→h'.get? b=some o)(p:j3 h v):j3 h' v:=
 fun a e=>by obtain⟨o,x,y⟩:=p a e;exact⟨o,hk _ _ x,y⟩
theorem nu.mono{s:Slot}{v:Value}(hF:dG F F')(hk: ∀b o,h.get? b=some o→h'.get? b=some o)(p:nu D F h me s v):nu D F' h' me s v:=by
 induction s using Slot.casesOn with
 |aw=>exact VR.mono hF p
 |own|cK|ro=>exact⟨f0.mono hF hk p.1,p.2.1.mono hk,p.2.2⟩
 |me=>exact p
theorem SR.ext(S:SR D F W env me st rv h)(hk: ∀b o,h.get? b=some o→h'.get? b=some o):SR D F W env me st rv h' where
 fz:=S.fz.trans hk
 base:=S.base
 wf:=S.wf
 wx:=fun a w=>by obtain⟨o,e⟩:=S.wx a w;exact⟨o,hk a o e⟩
 sl:=fun k s e=>by obtain⟨v,a,b⟩:=S.sl k s e;exact⟨v,a,b.mono (dG.refl F) hk⟩
 held:=S.held
 dist:=S.dist
 As:=fun x v e=>(S.As x v e).mono hk
 Gu:=fun x v e=>(S.Gu x v e).mono hk
 me:=S.me.mono hk
 pw:=S.pw
 ma:=S.ma.mono hk
 mw:=S.mw
 Bt:=by obtain⟨m,a⟩:=S.Bt;exact⟨m,a.keeps hk⟩
 tn:=fun p hp=>by obtain⟨v,a⟩:=S.tn p hp;exact⟨v,a.keeps hk⟩
theorem SR.grow(S:SR D F W env me st rv h)(le:dG F F')(fz:dG F' h.get?)(nw: ∀b o,F' b=some o→F b=some o∨(¬W b∧ ¬dh st rv b∧ ∀i C d,me=some (i,C,d)→b≠i∧b≠d)):SR D F' W env me st rv h where
 fz:=fz
 base:=S.base.trans le
 wf:=fun a w=>by
  induction e:F' a using ab with
  |none=>rfl
  |some o=>
   rcases nw a o e with q|q
   .exact fU (S.wf a w) q
   .exact absurd w q.1
 wx:=S.wx
 sl:=fun k s e=>let⟨v,a,b⟩:=S.sl k s e;⟨v,a,b.mono le fun Y Y q=>q⟩
 held:=fun k s e hs=>by
  obtain⟨a,h1,h2,h3⟩:=S.held k s e hs
  refine⟨a,h1,?_,h3⟩
  induction q:F' a using ab with
  |none=>rfl
  |some o=>
   rcases nw a o q with q|q
   .exact fU h2 q
   .exact absurd ⟨k,s,e,hs,h1⟩ q.2.1
 dist:=S.dist
 As:=S.As
 Gu:=S.Gu
 me:=fun i C d e=>by
  obtain⟨a,b,c,r⟩:=S.me i C d e
  have no: ∀x,(x=i∨x=d)→F x=none→F' x=none:=fun x hx hn=>by
   induction q:F' x using ab with
   |none=>rfl
   |some o=>
    rcases nw x o q with q|q
    .exact fU hn q
    .have:=q.2.2 i C d e
     rcases hx with hx|hx
     .exact absurd hx this.1
     .exact absurd hx this.2
  exact⟨a,no i (.inl rfl) b,no d (.inr rfl) c,r⟩
 pw:=⟨S.pw.1,fun p hp=>(S.pw.2 p hp).imp id fun⟨o,e⟩=>⟨o,le _ _ e⟩⟩
 ma:=S.ma
 mw:=S.mw
 Bt:=S.Bt
 tn:=S.tn
theorem SR.pB(S:SR D F W env me st rv h){b:Addr}(q:dh st rv b): ∃o,h.get? b=some o:=by
 obtain⟨k,s,e,hs,hr⟩:=q
 obtain⟨v,h1,h2⟩:=S.sl k s e
 obtain rfl:=dZ hr h1
 induction s using Slot.casesOn with
 |aw=>exact ew hs
 |me=>exact ew hs
 |own|cK|ro=>obtain⟨o,ho,_⟩:=h2.2.1 b rfl;exact⟨o,ho⟩
end
noncomputable def eY(st bB:St):Prop:=(∀k t,st.get k=some (.cK t)→ ∃t',bB.get k=some (.cK t'))∧ ∀k t,bB.get k=some (.cK t)→ ∃t',st.get k=some (.cK t')
theorem eY.refl(st:St):eY st st:=⟨fun Y t h=>⟨t,h⟩,fun Y t h=>⟨t,h⟩⟩
theorem eY.trans{a b c:St}(x:eY a b)(y:eY b c):eY a c:=
 ⟨fun k t e=>by obtain⟨t',e'⟩:=x.1 k t e;exact y.1 k t' e',fun k t e=>by obtain⟨t',e'⟩:=y.2 k t e;exact x.2 k t' e'⟩
structure dU(F:FH)(st:St)(rv:RV)(s:Shared)(F':FH)(bB:St)(s':Shared):Prop where
 sh: ∃h' n9,s'={ s with heap:=h',toks:=n9 }
 le:dG F F'
 new: ∀b o,F' b=some o→F b=some o∨s.heap.get? b=none∨kg st rv b
 keep: ∀b o,s.heap.get? b=some o→ ¬kg st rv b→s'.heap.get? b=some o
 own: ∀b,kg bB rv b→kg st rv b
 held: ∀b,dh bB rv b→dh st rv b
 alive: ∀b,s.heap.get? b≠none→s'.heap.get? b≠none
 cK:eY st bB
 keys:bB.map (·.1)=st.map (·.1)
theorem dU.refl(F:FH)(st:St)(rv:RV)(s:Shared):dU F st rv s F st s:=
 ⟨⟨s.heap,s.toks,rfl⟩,dG.refl F,fun Y Y h=> .inl h,fun Y Y h Y=>h,fun Y h=>h,fun Y h=>h,fun Y h=>h,eY.refl st,rfl⟩
theorem dU.trans{bK fW q8:FH}{aR eD lm:St}{rv:RV}{bk d3 jJ:Shared}(a:dU bK aR rv bk fW eD d3)(b:dU fW eD rv d3 q8 lm jJ):dU bK aR rv bk q8 lm jJ where
 sh:=by obtain⟨h,t,rfl⟩:=a.sh;obtain⟨h',t',rfl⟩:=b.sh;exact⟨h',t',rfl⟩
 le:=a.le.trans b.le
 new:=fun x o e=>by
  rcases b.new x o e with q|q|q
  .exact a.new x o q
  .refine .inr (.inl ?_)
   induction e:bk.heap.get? x using ab with
   |none=>rfl
   |some o=>exact absurd q (a.alive x (by exact ae e (fun z=>nomatch z)))
  .exact .inr (.inr (a.own x q))
 keep:=fun x o e n=>b.keep x o (a.keep x o e n) fun q=>n (a.own x q)
 own:=fun x q=>a.own x (b.own x q)
 held:=fun x q=>a.held x (b.held x q)
 alive:=fun x q=>b.alive x (a.alive x q)
 cK:=a.cK.trans b.cK
 keys:=b.keys.trans a.keys
structure qW(D:Wd)(F:FH)(W:Addr→Prop)(st:St)(rv:RV)(me:Me)(h:Heap)(t:MV)(v:Value):Prop where
 ref: ∃a,v= .ref a∧F a=none∧ ¬W a∧ ¬dh st rv a∧ ∀i C d,me=some (i,C,d)→a≠i∧a≠d
 at_:D.f0 F h.get? t v
 ZL:j3 h v
 box:fS t=true
noncomputable def hE(D:Wd)(F:FH)(W:Addr→Prop)(st:St)(rv:RV)(me:Me)(h:Heap)(o:Bool)(t:MV)(v:Value):Prop:=match o with
 |true=>qW D F W st rv me h t v
 |false=>D.VR F t v
theorem qW.step{D:Wd}{F F':FH}{W:Addr→Prop}{st bB:St}{rv:RV}{me:Me}{s s':Shared}{t:MV}{v:Value}(x:qW D F W st rv me s.heap t v)(P:dU F st rv s F' bB s'):qW D F' W bB rv me s'.heap t v:=by
 obtain⟨⟨a,rfl,hF,hW,hH,hm⟩,iG,hb,hx⟩:=x
 obtain⟨o,ho,hd⟩:=hb a rfl
 have nO: ¬kg st rv a:=fun q=>hH q.held
 have tw:=P.keep a o ho nO
 refine⟨⟨a,rfl,?_,hW,fun q=>hH (P.held a q),hm⟩,f0.box hx P.le iG (fun b o' e q=>by obtain rfl:=eM e;exact P.keep _ _ q nO),fun b e=>by obtain rfl:=eM e;exact⟨o,tw,hd⟩,hx⟩
 induction e:F' a using ab with
 |none=>rfl
 |some o'=>
  rcases P.new a o' e with q|q|q
  .exact fU hF q
  .exact Sn (ho.symm.trans q)
  .exact absurd q nO
noncomputable def FH.add(F:FH)(a:Addr)(o:Obj):FH:=fun b=>if b=a then some o else F b
theorem FH.li{F:FH}{a:Addr}{o:Obj}(h:F a=none):dG F (F.add a o):=fun b ob e=>by
 unfold FH.add
 split
 .rename_i q;subst q;exact fU h e
 .exact e
theorem FH.tq(F:FH)(a:Addr)(o:Obj):F.add a o a=some o:=by simp[FH.add]
theorem FH.iF{F:FH}{a b:Addr}{o ob:Obj}(h:F.add a o b=some ob):F b=some ob∨(b=a∧ob=o):=by
 unfold FH.add at h
 split at h
 .rename_i q;exact .inr ⟨q,(Option.some.inj h).symm⟩
 .exact .inl h
theorem Bn{D:Wd}{F cJ:FH}{t:MV}{a:Addr}{o:Obj}(hb:fS t=true)(hF:F a=none)(ho:cJ a=some o)(iG:D.f0 F cJ t (.ref a)):D.VR (F.add a o) t (.ref a):=
 dO.mpr (f0.box hb (FH.li hF) iG fun b ob e q=>by obtain rfl:=eM e;obtain rfl:=dZ ho q;exact FH.tq F a o)
theorem qW.freeze{D:Wd}{F:FH}{W:Addr→Prop}{env:Env}{me:Me}{st:St}{rv:RV}{h:Heap}{t:MV}{v:Value}(S:SR D F W env me st rv h)(x:qW D F W st rv me h t v):
 ∃a o,v= .ref a∧F a=none∧h.get? a=some o∧SR D (F.add a o) W env me st rv h∧D.VR (F.add a o) t v:=by
 obtain⟨⟨a,rfl,hF,hW,hH,hm⟩,iG,hb,hx⟩:=x
 obtain⟨o,ho,hd⟩:=hb a rfl
 refine⟨a,o,rfl,hF,ho,S.grow (FH.li hF) ?_ ?_,Bn hx hF ho iG⟩
 .intro b ob e
  clear iG hb hF hW hH hm hd;rcases FH.iF e with q|⟨rfl,rfl⟩
  .exact S.fz b ob q
  .exact ho
 .intro b ob e
  clear iG hb hF ho hd;rcases FH.iF e with q|⟨rfl,rfl⟩
  .exact .inl q
  .exact .inr ⟨hW,hH,hm⟩
theorem dU.add{bj F:FH}{b7 st:St}{rv:RV}{aZ s:Shared}(P:dU bj b7 rv aZ F st s){a:Addr}{o:Obj}(hF:F a=none)(hn:aZ.heap.get? a=none):dU bj b7 rv aZ (F.add a o) st s:=
 ⟨P.sh,P.le.trans (FH.li hF),fun b ob e=>(FH.iF e).elim (P.new b ob) fun q=> .inr (.inl (q.1▸hn)),P.keep,P.own,P.held,P.alive,P.cK,P.keys⟩
theorem hE.freeze{D:Wd}{bj F:FH}{W:Addr→Prop}{env:Env}{me:Me}{b7 st:St}{rv:RV}{aZ s:Shared}{o:Bool}{t:MV}{v:Value}(S:SR D F W env me st rv s.heap)(P:dU bj b7 rv aZ F st s)
 (x:hE D F W st rv me s.heap o t v) (fresh:o=true→ ∀a,v= .ref a→aZ.heap.get? a=none): ∃F',SR D F' W env me st rv s.heap∧dU bj b7 rv aZ F' st s∧D.VR F' t v:=by
 induction o using ag with
 |false=>exact⟨F,S,P,x⟩
 |true=>
  obtain⟨a,o,rfl,hF,ho,S',hv⟩:=qW.freeze S x
  exact⟨_,S',P.add hF (fresh rfl _ rfl),hv⟩
noncomputable def rF(D:Wd)(F:FH)(h:Heap)(m:c8)(t:MV)(v:Value):Prop:=match m with
 | .aw=>D.VR F t v
 |_=>D.f0 F h.get? t v∧j3 h v∧fS t=true∧ ∃a,v= .ref a∧F a=none
inductive ef(D:Wd)(F:FH)(h:Heap):List c8→List MV→List Value→Prop
 |nil {ms}:ef D F h ms [] []
 |cons {ms t ts v vs} (a:rF D F h (b9 ms) t v) (b:ef D F h ms.tail ts vs):ef D F h ms (t::ts) (v::vs)
noncomputable def adr(v:Value)(l:List Addr):List Addr:=match v with
 | .ref a=>a::l
 |_=>l
noncomputable def oy(m:c8)(v:Value)(l:List Addr):List Addr:=match m with| .aw=>l| .own=>adr v l| .lend=>adr v l
noncomputable def tK(m:c8)(v:Value)(l:List Addr):List Addr:=match m with| .aw=>l| .own=>adr v l| .lend=>l
noncomputable def GB(m:c8)(v:Value)(l:Option Value):Option Value:=match m with| .aw=>l| .own=>l| .lend=>some v
noncomputable def bQ:List c8→List Value→List Addr
 |_,[]=>[]
 |ms,v::vs=>oy (b9 ms) v (bQ ms.tail vs)
noncomputable def cq:List c8→List Value→List Addr
 |_,[]=>[]
 |ms,v::vs=>tK (b9 ms) v (cq ms.tail vs)
noncomputable def cU:List c8→List Value→Option Value
 |_,[]=>none
 |ms,v::vs=>GB (b9 ms) v (cU ms.tail vs)
noncomputable def yv(D:Wd)(F:FH)(h:Heap)(v:Option Value)(t:Option MV):Prop:=match v with
 |none=>(match t with|none=>True|some _=>False)
 |some v=>(match t with|none=>False|some t=>D.f0 F h.get? t v∧j3 h v∧fS t=true∧ ∀a,v= .ref a→F a=none)
noncomputable def DH(D:Wd)(F:FH)(h₀ h:Heap)(own:Bool)(r:MV)(v:Value):Prop:=match own with
 |false=>D.VR F r v
 |true=>D.f0 F h.get? r v∧j3 h v∧fS r=true∧ ∃a,v= .ref a∧h₀.get? a=none∧F a=none
noncomputable def cS(D:Wd)(n:Nat)(v:Value)(c:ej):Prop:=
 ∀{A:Around}{F:FH}{s:Shared}{ts:List MV}{vs:List Value}{K:MV→Option MV→aH}{res:MV×Option MV}{Q E:Value→Shared→Prop},ey A n→dG D.h₀.get? F→dG F s.heap.get?→
  ef D F s.heap c.aY ts vs→(bQ c.aY vs).Nodup→c.run ts K=some res→
  (∀F' h' n9 v' r out,K r out=some res→dG F F'→dG F' h'.get?→(∀b o,F' b=some o→F b=some o∨s.heap.get? b=none∨b∈cq c.aY vs)→
    (∀b o,s.heap.get? b=some o→b∉bQ c.aY vs→h'.get? b=some o)→(∀b,s.heap.get? b≠none→h'.get? b≠none)→
    yv D F' h' (cU c.aY vs) out→DH D F' s.heap h' c.own r v'→Q v' { s with heap:=h',toks:=n9 })→
  wpAny (model D.prog D.w) A (call v vs) Q E s
theorem cS.le{D:Wd}{n m:Nat}{v:Value}{c:ej}(x:cS D n v c)(h:n≤m):cS D m v c:=
 fun ha=>x (ha.le h)
structure r9(K:Frag)(C:Addr)(a:Str):Prop where
 ga:findIn K (.ref C) "__getattribute__"=some (some (.builtin "object.__getattribute__"))
 hd:hasDictIn K C=true
 at_: ∃at_,findIn K (.ref C) a=some at_∧noGet K at_=true
 sa:findIn K (.ref C) "__setattr__"=some (some (.builtin "object.__setattr__"))
 po:plainOver K C=true
 tk:takerIn K C a=some none
structure cy(D:Wd)(n:Nat)(cx:Cx)(env:Env):Prop where
 kf:env.scope.kind= .function
 ap:env.cells.Pairwise fun x y=>x.2≠y.2
 lc: ∀p∈env.cells,p.2≠env.locals
 cd:cx.sd=true→kdsCode D.K env.code=true
 cs: ∀x k,cx.sc.names.lookup x=some k→k= .cell∨k= .free→ ∃c,env.cells.lookup x=some c
 gl:env.globals=mainGlobals
 bu:env.builtins=builtinsNs
 ng: ∀x,cx.sc.names.lookup x=some .globalImplicit→env.kindOf x=some .globalImplicit
 nl: ∀x,cx.sc.names.lookup x=some .local→env.kindOf x=some .local
 nc: ∀x,cx.sc.names.lookup x=some .cell→env.kindOf x=some .cell
 nf: ∀x,cx.sc.names.lookup x=some .free→env.kindOf x=some .free∨env.kindOf x=some .cell
 nd: ∀x k,cx.sc.names.lookup x=some k→(x==("__debug__":Str))=false∧(x==("__classdict__":Str))=false
 glob: ∀x t,cx.glob x=some t→ ∃v,nsIn D.K mainGlobals x=some (some v)∧ ∀F,D.VR F t v
 bi: ∀x∈Str.ofString "enumerate"::c9,nsIn D.K mainGlobals x=some none
 fn: ∀x c,cx.fn x=some c→ ∃v,nsIn D.K mainGlobals x=some (some v)∧keepIn D.K v=true∧cS D n v c
 pA: ∀C m c,cx.pA C m=some c→ ∃f,findIn D.K (.ref C) m=some (some (.ref f))∧isFn D.K (.ref f)=true∧keepIn D.K (.ref f)=true∧
  findIn D.K (.ref C) "__getattribute__"=some (some (.builtin "object.__getattribute__"))∧findIn D.K (.ref C) "__getattr__"=some none∧cS D n (.ref f) c
 attr: ∀C a,cx.attr C a=true→r9 D.K C a
inductive bP(D:Wd)(F:FH)(W:Addr→Prop)(env:Env)(me:Me)(st:St)(rv:RV)(s:Shared)(k:KT)(out:MV×Option MV)(v:Value)(s':Shared):Prop where
 |mk (F':FH) (o:Bool) (t:MV) (bB:St) (h0:k o t bB=some out) (h1:dU F st rv s F' bB s') (h2:SR D F' W env me bB rv s'.heap) (h3:hE D F' W bB rv me s'.heap o t v) (h4:(o=true→ ∀a,v= .ref a→s.heap.get? a=none))
inductive MN(D:Wd)(F:FH)(W:Addr→Prop)(env:Env)(me:Me)(st:St)(rv:RV)(s:Shared)(k:MV→St→aH)(out:MV×Option MV)(v:Value)(s':Shared):Prop where
 |mk (F':FH) (t:MV) (bB:St) (h0:k t bB=some out) (h1:dU F st rv s F' bB s') (h2:SR D F' W env me bB rv s'.heap) (h3:D.VR F' t v)
noncomputable def d4(D:Wd)(n:Nat)(R:RT):Prop:=
 ∀{cx:Cx}{e:Expr}{st:St}{k:KT}{out:MV×Option MV},R cx e st k=some out→
  (∀x p,e≠ .Starred x p)∧ ∀{A:Around}{env:Env}{F:FH}{W:Addr→Prop}{me:Me}{rv:RV}{s:Shared}{E:Value→Shared→Prop},ey A n→cy D n cx env→SR D F W env me st rv s.heap→
  wpAny (model D.prog D.w) A (eval e env) (bP D F W env me st rv s k out) E s
section
variable{D:Wd}{n:Nat}{R:RT}{cx:Cx}{A:Around}{env:Env}{F:FH}{W:Addr→Prop}{me:Me}{st:St}{rv:RV}{s:Shared}{E:Value→Shared→Prop}{out:MV×Option MV}
theorem d4.aw(hR:d4 D n R){e:Expr}{k:MV→St→aH}(h:(R cx e st fun Y t st=>k t st)=some out)(ha:ey A n)(hc:cy D n cx env)(S:SR D F W env me st rv s.heap):
 wpAny (model D.prog D.w) A (eval e env) (MN D F W env me st rv s k out) E s:=by
 refine wm ((hR h).2 ha hc S) ?_
 rintro v s' ⟨F',o,t,bB,hk,P,S',hr,hf⟩
 obtain⟨NW,BF,P',hv⟩:=hE.freeze S' P hr hf
 exact⟨NW,t,bB,hk,P',BF,hv⟩
noncomputable def OT(D:Wd)(F:FH)(W:Addr→Prop)(st:St)(rv:RV)(me:Me)(h:Heap)(a:Arg)(v:Value):Prop:=match a with
 | .kG x=>rv (.v x)=some v
 | .val o t=>hE D F W st rv me h o t v
inductive fT(D:Wd)(F:FH)(W:Addr→Prop)(st:St)(rv:RV)(me:Me)(h:Heap):List Arg→List Value→Prop
 |nil:fT D F W st rv me h [] []
 |cons {a as v vs} (x:OT D F W st rv me h a v) (y:fT D F W st rv me h as vs):fT D F W st rv me h (a::as) (v::vs)
theorem fT.inv{D:Wd}{F:FH}{W:Addr→Prop}{st:St}{rv:RV}{me:Me}{h:Heap}{l:List Arg}{vs:List Value}(x:fT D F W st rv me h l vs):match l with
 | []=>vs=[]
 |a::as=> ∃v lC,vs=v::lC∧OT D F W st rv me h a v∧fT D F W st rv me h as lC:=by
 induction x using fT.casesOn with
 |nil=>rfl
 |cons x y=>exact⟨_,_,rfl,x,y⟩
theorem ef.inv{D:Wd}{F:FH}{h:Heap}{ms:List c8}{l:List MV}{vs:List Value}(x:ef D F h ms l vs):match l with
 | []=>vs=[]
 |t::ts=> ∃v lC,vs=v::lC∧rF D F h (b9 ms) t v∧ef D F h ms.tail ts lC:=by
 induction x using ef.casesOn with
 |nil=>rfl
 |cons x y=>exact⟨_,_,rfl,x,y⟩
noncomputable def bU:List Arg→List Value→List Addr
 | [],_=>[]
 |a::as,vs=>(match vs with
  | []=>[]
  |v::vs=>(match a with| .val o _=>bif o then adr v (bU as vs)else bU as vs| .kG _=>bU as vs))
inductive TL(D:Wd)(F:FH)(W:Addr→Prop)(env:Env)(me:Me)(st:St)(rv:RV)(s:Shared)(k:List Arg→St→aH)(out:MV×Option MV)(vs:List Value)(s':Shared):Prop where
 |mk (F':FH) (as:List Arg) (bB:St) (h0:k as bB=some out) (h1:dU F st rv s F' bB s') (h2:SR D F' W env me bB rv s'.heap) (h3:fT D F' W bB rv me s'.heap as vs)
  (h4: ∀a∈bU as vs,s.heap.get? a=none∧s'.heap.get? a≠none) (h5:(bU as vs).Nodup)
theorem hE.step{F':FH}{bB:St}{s':Shared}{o:Bool}{t:MV}{v:Value}(x:hE D F W st rv me s.heap o t v)(P:dU F st rv s F' bB s'):hE D F' W bB rv me s'.heap o t v:=by
 induction o using ag with
 |false=>exact VR.mono P.le x
 |true=>exact qW.step x P
theorem dU.e7{F':FH}{bB:St}{s':Shared}(P:dU F st rv s F' bB s'){a:Addr}(h:s'.heap.get? a=none):s.heap.get? a=none:=by
 induction z:s.heap.get? a using ab with
 |none=>rfl
 |some o=>exact absurd h (P.alive a fun q=>Sn (z.symm.trans q))
theorem aJ{b:Bool}{x:aH}(h:(bif b then x else none)=some out):b=true∧x=some out:=by
 induction b using ag with
 |true=>exact⟨rfl,h⟩
 |false=>exact nn h
theorem nZ{β:Type}{b:Bool}{x:Option β}{r:β}(h:(bif b then x else none)=some r):b=true∧x=some r:=by
 induction b using ag with
 |true=>exact⟨rfl,h⟩
 |false=>exact nn h
theorem rz{b:Bool}{x:aH}(h:(bif !b then none else x)=some out):b=true∧x=some out:=by
 induction b using ag with
 |true=>exact⟨rfl,h⟩
 |false=>exact nn h
theorem sp{sl:Option Slot}{t:MV}(h:vA sl=some t): ∃s',sl=some s'∧s'.gC=true∧m8 sl=some t:=by
 induction sl using ab with
 |none=>exact nn h
 |some s=>
  induction s using Slot.casesOn with
  |own=>exact⟨_,rfl,rfl,h⟩
  |cK=>exact⟨_,rfl,rfl,h⟩
  |_=>exact nn h
theorem H0(S:SR D F W env me st rv s.heap){x:fG}{t:MV}(h:vA (st.get x)=some t): ∃v,rv x=some v:=by
 obtain⟨Y,q,Y⟩:=sp h
 obtain⟨v,q,Y⟩:=S.sl _ _ q
 exact⟨v,q⟩
theorem ia{e:Expr}{vz:List Expr}(he: ∀x p,e≠ .Starred x p):starEach (e::vz) env=(false,eval e env)::starEach vz env:=by
 induction e using Expr.casesOn<;>first|rfl|exact absurd rfl (he _ _)
theorem BW(hc:cy D n cx env){x:Str}(h:jP cx x=true):(env.kindOf x=some .local∨env.kindOf x=some .cell∨env.kindOf x=some .free)∧(x==("__debug__":Str))=false∧(x==("__classdict__":Str))=false:=by
 rcases Cu h with q|q|q
 .exact⟨.inl (hc.nl x q),hc.nd x _ q⟩
 .exact⟨.inr (.inl (hc.nc x q)),hc.nd x _ q⟩
 .exact⟨(hc.nf x q).elim (fun z=> .inr (.inr z)) (fun z=> .inr (.inl z)),hc.nd x _ q⟩
theorem jw(hc:cy D n cx env)(S:SR D F W env me st rv s.heap){x:Str}(h:jP cx x=true){v:Value}(hv:rv (.v x)=some v){pos:Pos}{Q:Value→Shared→Prop}(hq:Q v s):
 wpAny (model D.prog D.w) A (eval (.Name x pos) env) Q E s:=by
 obtain⟨k,hd,hb⟩:=BW hc h
 refine wpAny_Name ?_ hd
 have p:=S.As x v hv
 rcases k with k|k|k
 .obtain⟨m,a,b⟩:=p.1 k
  exact wpAny_loadName_local hc.kf k a b hq
 .obtain⟨c,a,b⟩:=p.2 (.inl k)
  exact wpAny_loadName_cell hc.kf k a b hq
 .obtain⟨c,a,b⟩:=p.2 (.inr k)
  exact wpAny_loadName_free hc.kf k a b hq hb
theorem fR(hR:d4 D n R)(ha:ey A n)(hc:cy D n cx env)(pos:Pos)(es:List Expr)(ms:List c8){F:FH}{st:St}{s:Shared}{k:List Arg→St→aH}(h:eH (R cx) cx ms es st k=some out)(S:SR D F W env me st rv s.heap):
 wpAny (model D.prog D.w) A (spliced (backTo pos (starEach es env))) (TL D F W env me st rv s k out) E s:=by
 induction es generalizing ms F st s k with
 |nil=>exact spliced_nil ⟨F,[],st,h,dU.refl ..,S,.nil,fun a q=>jZ q,List.nodup_nil⟩
 |cons e es ih=>
  have one (h:(R cx e st fun o t st=>eH (R cx) cx ms.tail es st fun as st=>k (.val o t::as) st)=some out):wpAny (model D.prog D.w) A (spliced (backTo pos (starEach (e::es) env))) (TL D F W env me st rv s k out) E s:=by
   obtain⟨q,h⟩:=hR h
   refine ae (ia q) (spliced_cons (wm (h ha hc S) ?_))
   clear q h
   rintro v bk ⟨bK,o,t,aR,hk,bX,bh,hr,hf⟩
   refine wm (ih ms.tail hk bh) ?_
   rintro vs d3 ⟨fW,as,eD,iS,fC,eT,AL,xo,rO⟩
   have nG (a) (q:a∈bU as vs):s.heap.get? a=none∧d3.heap.get? a≠none:=⟨bX.e7 (xo a q).1,(xo a q).2⟩
   have g:(∀a∈bU (.val o t::as) (v::vs),s.heap.get? a=none∧d3.heap.get? a≠none)∧(bU (.val o t::as) (v::vs)).Nodup:=by
    clear ih hk iS eT AL
    induction o using ag with
    |false=>exact⟨nG,rO⟩
    |true=>
     obtain⟨⟨b,rfl,Y⟩,Y,hb,Y⟩:=hr
     obtain⟨ob,ho,Y⟩:=hb _ rfl
     refine⟨fun a q=>?_,bC.mpr ⟨fun q=>Sn (ho.symm.trans (xo b q).1),rO⟩⟩
     rcases aA.mp q with rfl|q
     .exact⟨hf rfl _ rfl,fC.alive _ fun z=>Sn (ho.symm.trans z)⟩
     .exact nG a q
   exact⟨fW,.val o t::as,eD,iS,bX.trans fC,eT,.cons (hr.step fC) AL,g.1,g.2⟩
  have h:Jt (b9 ms) _ _=some out:=h
  generalize b9 ms=m at h
  induction m using c8.casesOn with
  |aw=>exact one h
  |own=>exact one h
  |lend=>
   clear one
   obtain⟨x,p,rfl,h⟩:=eZ h
   obtain⟨t,hm,h⟩:=cL h
   obtain⟨hv,h⟩:=aJ h
   obtain⟨v,h1⟩:=H0 S hm
   refine ae (ia (e:= .Name x p) fun Y Y=>nofun) (spliced_cons (jw hc S hv h1 ?_))
   clear hv
   refine wm (ih ms.tail h S) ?_
   rintro vs d3 ⟨fW,as,eD,iS,fC,eT,AL,xo,rO⟩
   exact⟨fW,.kG x::as,eD,iS,fC,eT,.cons h1 AL,xo,rO⟩
end
variable{D:Wd}{n:Nat}{st:St}{F:FH}{v:Value}{env:Env}{ts:List MV}{t:MV}{cx:Cx}{A:Around}{s:Shared}{x:Str}{E:Value→Shared→Prop}{vs:List Value}{rv:RV}{W:Addr→Prop}{me:Me}{out:MV×Option MV}{R:RT}{a:Addr}{Q:Value→Shared→Prop}{i:Nat}{pos:Pos}{o:Obj}{k:KT}{e:Expr}{m:Nat}{h:Heap}{ms:List c8}{args:List Expr}{b:Addr}{is:List Int}
theorem cE(h:Heap):h.get? h.objs.size=none:=by
 induction e:h.get? h.objs.size using ab with
 |none=>rfl
 |some o=>exact absurd (cr e) (Nat.lt_irrefl _)
section
theorem dU.same{h':Heap}{t:Nat}(hk: ∀b o,s.heap.get? b=some o→h'.get? b=some o):dU F st rv s F st { s with heap:=h',toks:=t } where
 sh:=⟨h',t,rfl⟩
 le:=dG.refl F
 new:=fun Y Y e=> .inl e
 keep:=fun b o e Y=>hk b o e
 own:=fun Y h=>h
 held:=fun Y h=>h
 alive:=fun b e=>by
  induction q:s.heap.get? b using ab with
  |none=>exact absurd q e
  |some o=>exact ae (hk b o q) (fun z=>nomatch z)
 cK:=eY.refl st
 keys:=rfl
theorem cO(o:Obj): ∀b ob,h.get? b=some ob→(h.push o).get? b=some ob:=fun Y Y e=>bq o e
theorem SR.fresh(S:SR D F W env me st rv s.heap)(h:s.heap.get? a=none):F a=none∧ ¬W a∧ ¬dh st rv a∧ ∀i C d,me=some (i,C,d)→a≠i∧a≠d:=by
 refine⟨?_,fun w=>?_,fun q=>?_,fun i C d e=>?_⟩
 .induction e:F a using ab with
  |none=>rfl
  |some o=>exact Sn ((S.fz a o e).symm.trans h)
 .obtain⟨o,e⟩:=S.wx a w;exact Sn (e.symm.trans h)
 .obtain⟨o,e⟩:=S.pB q;exact Sn (e.symm.trans h)
 .obtain⟨h1,Y,Y,es,n,h2⟩:=S.me i C d e
  exact⟨fun q=>(by clear e;subst q;rw[h1]at h;exact nomatch h),fun q=>(by clear h1;subst q;rw[h2]at h;exact nomatch h)⟩
theorem SR.Sx(S:SR D F W env me st rv s.heap){h':Heap}(hn:s.heap.get? a=none)(ho:h'.get? a=some o)(hd:o.dict=none)(hb:fS t=true)
 (iG:D.f0 F h'.get? t (.ref a)):qW D F W st rv me h' t (.ref a):=
 ⟨⟨a,rfl,S.fresh hn⟩,iG,fun b e=>by obtain rfl:=eM e;exact⟨o,ho,hd⟩,hb⟩
inductive oo(D:Wd)(F:FH)(W:Addr→Prop)(env:Env)(me:Me)(st:St)(rv:RV)(s:Shared)(k:Bool→MV→aH)(out:MV×Option MV)(v:Value)(s':Shared):Prop where
 |mk (o:Bool) (t:MV) (h0:k o t=some out) (h1:dU F st rv s F st s') (h2:SR D F W env me st rv s'.heap) (h3:hE D F W st rv me s'.heap o t v) (h4:(o=true→ ∀a,v= .ref a→s.heap.get? a=none))
theorem iL{i:Int}{t:Tok}:D.VR F (.int i) (.int i t):=dO.mpr ⟨[],⟨⟨t,rfl⟩,rfl⟩,dm.nil⟩
theorem vM{t:Tok}:D.VR F (.str x) (.str x t):=dO.mpr ⟨[],⟨⟨t,rfl⟩,rfl⟩,dm.nil⟩
theorem ru{b:Bool}:D.VR F (.bool b) (.bool b):=dO.mpr ⟨[],⟨rfl,rfl⟩,dm.nil⟩
theorem oK:D.VR F .none .none:=dO.mpr ⟨[],⟨rfl,rfl⟩,dm.nil⟩
theorem eV(S:SR D F W env me st rv s.heap){k:Bool→MV→aH}{i:Int}{t:Tok}{tk:Nat}(h:k false (.int i)=some out):oo D F W env me st rv s k out (.int i t) { s with toks:=tk }:=
 ⟨false,_,h,dU.same fun Y Y e=>e,S,(iL (D:=D) (F:=F)),fun e=>by exact ew e⟩
theorem LO(S:SR D F W env me st rv s.heap){k:Bool→MV→aH}{t:Tok}{tk:Nat}(h:k false (.str x)=some out):oo D F W env me st rv s k out (.str x t) { s with toks:=tk }:=
 ⟨false,_,h,dU.same fun Y Y e=>e,S,(vM (D:=D) (F:=F)),fun e=>by exact ew e⟩
theorem mC(S:SR D F W env me st rv s.heap){k:Bool→MV→aH}{h':Heap}{tk:Nat}(h:k true (.list ts)=some out)(hv:D.dm F ts vs)
 (hk: ∀b o,s.heap.get? b=some o→h'.get? b=some o) (hn:s.heap.get? a=none) (ho:h'.get? a=some (listOf vs.toArray n)) (hz:ts.length≤2000000):oo D F W env me st rv s k out (.ref a) { s with heap:=h',toks:=tk }:=
 ⟨true,_,h,dU.same hk,S.ext hk,S.Sx hn ho rfl rfl ⟨vs,⟨a,n,rfl,ho,by exact ae hv.length hz⟩,hv⟩,fun Y b e=>by obtain rfl:=eM e;exact hn⟩
theorem gj{i:Int}(h:D.VR F (.int i) v): ∃t,v= .int i t:=(dO.mp h).elim fun Y h=>h.1.1
theorem vI(h:D.VR F (.str x) v): ∃t,v= .str x t:=(dO.mp h).elim fun Y h=>h.1.1
theorem vY{b:Bool}(h:D.VR F (.bool b) v):v= .bool b:=(dO.mp h).elim fun Y h=>h.1.1
theorem Hq(h:D.VR F .none v):v= .none:=(dO.mp h).elim fun Y h=>h.1.1
@[elab_as_elim] theorem rM{i:Int}{Q:Value→Prop}(h:D.VR F (.int i) v)(k: ∀t,Q (.int i t)):Q v:=(gj h).elim fun t e=>e▸k t
@[elab_as_elim] theorem Je{i:Str}{Q:Value→Prop}(h:D.VR F (.str i) v)(k: ∀t,Q (.str i t)):Q v:=(vI h).elim fun t e=>e▸k t
@[elab_as_elim] theorem kL{a b:MV}{f:Int→Int→aH}{Q:Value→Value→Prop}{va vb:Value}(h:i2 a b f=some out)(ha:D.VR F a va)(hb:D.VR F b vb)(k: ∀x y t u,f x y=some out→Q (.int x t) (.int y u)):Q va vb:=by
  obtain⟨x,y,p,q,h⟩:=zD h
  subst p q
  obtain⟨t,rfl⟩:=gj ha
  obtain⟨u,rfl⟩:=gj hb
  exact k x y t u h
theorem gf{F cJ:FH}(h:D.f0 F cJ (.list ts) v): ∃a n vs,v= .ref a∧cJ a=some (listOf vs.toArray n)∧D.dm F ts vs∧ts.length≤2000000:=by
 obtain⟨vs,⟨a,n,e,ho,hz⟩,hv⟩:=h
 exact⟨a,n,vs,e,ho,hv,af (c6 hv.length.symm) hz⟩
theorem oJ{F cJ:FH}(hl:dG F cJ)(h:D.VR F (.list ts) v): ∃a n vs,v= .ref a∧cJ a=some (listOf vs.toArray n)∧D.dm F ts vs∧ts.length≤2000000:=gf (h.at hl)
theorem Lc{F cJ:FH}(hl:dG F cJ)(h:D.VR F (.tup ts) v): ∃a n vs,v= .ref a∧cJ a=some { cls:= .type "tuple",data:= .seq vs.toArray n }∧D.dm F ts vs:=by
 obtain⟨vs,⟨a,n,e,ho⟩,hv⟩:=h.at hl
 exact⟨a,n,vs,e,ho,hv⟩
theorem dj{vs:Array Value}(ho:h.get? a=some (listOf vs n)):h.IsList a vs:=⟨_,ho,rfl,n,rfl⟩
theorem sG{a:Int}(h:iI a=true):Builtin.Int.intBits a≤64:=by
 have h':a.natAbs<18446744073709551616:=aj h
 unfold Builtin.Int.intBits
 split
 .exact Nat.zero_le _
 .rename_i hz
  have:a.natAbs≠0:=fun e=>hz (beq_iff_eq.mpr (Int.natAbs_eq_zero.mp e))
  have:=(Nat.log2_lt this (k:=64)).mpr (by simpa using h')
  assumption
theorem zI{b:Int}(h:gI b=true):b≠0∧Builtin.divisionGoesByPylong 0 b=false∧ ∀a,Builtin.divisionGoesByPylong a b=false:=by
 unfold gI at h
 simp only[aU,a9]at h
 have hz:b.natAbs≠0:=Int.natAbs_ne_zero.mpr (Int.ne_of_gt h.1)
 have hl:b.natAbs.log2<9000:=bT ((Nat.log2_lt hz (k:=64)).mpr (aj (SI (Int.le_of_lt h.1) h.2))) (by decide)
 exact⟨Int.ne_of_gt h.1,PyProof.noPylong_of_log2 hl,fun a=>PyProof.noPylong_of_log2 hl⟩
end
theorem yK(a:Int):a.natAbs<2 ^ Builtin.Int.intBits a:=by
 unfold Builtin.Int.intBits
 split
 .rename_i h;have:a=0:=by simpa using h
  clear h;subst this;decide
 .rename_i h
  have:a.natAbs≠0:=fun e=>h (by simpa using Int.natAbs_eq_zero.mp e)
  exact(Nat.log2_lt this (k:=a.natAbs.log2+1)).mp (Nat.lt_succ_self _)
theorem Hy{a:Int}(h:Builtin.Int.intBits a≤n):(if a<0 then -1 else 0:Int)=a.fdiv (2 ^ n):=by
 have h1:=yK a
 have h2:(2:Nat) ^ Builtin.Int.intBits a≤2 ^ n:=Nat.pow_le_pow_right (by decide) h
 have h3:(a.natAbs:Int)<2 ^ n:=by
  have:a.natAbs<2 ^ n:=bT h1 h2
  exact_mod_cast this
 have hp:(0:Int)<2 ^ n:=by exact Int.pow_pos (by decide)
 refine ae (Int.fdiv_eq_ediv_of_nonneg _ (Int.le_of_lt hp)) ?_
 generalize (2:Int) ^ n=p at*
 by_cases hn:a<0
 .refine(aF hn).trans ?_
  symm
  rw[Int.ediv_eq_iff_of_pos hp,Int.neg_one_mul,Int.add_left_neg]
  rw[Int.ofNat_natAbs_of_nonpos (Int.le_of_lt hn)]at h3
  exact⟨Int.le_of_lt (Int.neg_lt_of_neg_lt h3),hn⟩
 .refine(az hn).trans ?_
  symm
  exact Int.ediv_eq_zero_of_lt (by exact Int.not_lt.mp ‹_›) (Int.lt_of_le_of_lt Int.le_natAbs h3)
section
theorem foldl_rep(v:Value): ∀n(acc:Array Value),List.foldl (fun x1 x2=>x1++x2) acc (List.replicate n #[v])=acc++(List.replicate n v).toArray:=by
 intro l_
 induction l_ with
 |zero=>intro acc;simp
 |succ n ih=>
  intro acc
  refine ae List.replicate_succ (List.foldl_cons.trans ((ih ..).trans ?_))
  apply Array.ext'
  simp[List.replicate_succ]
theorem FM(S:SR D F W env me st rv s.heap){x y:List MV}{k:Bool→MV→aH}(h:k true (.list (x++y))=some out)(hz:x.length+y.length≤1000000){va vb:Value}(ha:D.VR F (.list x) va)(hb:D.VR F (.list y) vb):
 wpAny (model D.prog D.w) A (binaryOp .Add va vb) (oo D F W env me st rv s k out) E s:=by
 obtain⟨la,na,vs,rfl,BB,tv,_⟩:=oJ S.fz ha
 clear ha
 obtain⟨lb,nb,ws,rfl,GF,vk,_⟩:=oJ S.fz hb
 clear hb
 have hv:=tv.append vk
 have hl:(vs++ws).length≤1000000:=by rw[hv.length,b0];exact hz
 refine concat_meets ⟨_,BB,rfl⟩ ⟨_,GF,rfl⟩ noFill_list_add seq_list_add PySem.F.slot_list_add PySem.F.entry_list_add (PySem.F.args_list_add_2 _ _) (list_addW la lb vs.toArray ws.toArray na nb none none #[] #[] (af (b0▸hl) (aa rfl))) ⟨BB,GF,?_⟩
 refine ae (List.append_toArray vs ws) ?_
 exact mC S h hv (cO _) (cE _) (bt _ rfl) (af (b0▸hz) (aa rfl))
theorem FN(S:SR D F W env me st rv s.heap){y:Int}{k:Bool→MV→aH}(h:k true (.list (List.replicate y.toNat t))=some out)(h0:0≤y)(h1:y≤1000000){va vb:Value}(ha:D.VR F (.list [t]) va)(hb:D.VR F (.int y) vb):
 wpAny (model D.prog D.w) A (binaryOp .Mult va vb) (oo D F W env me st rv s k out) E s:=by
 obtain⟨la,na,vs,rfl,BB,tv,_⟩:=oJ S.fz ha
 clear ha
 obtain⟨v,lC,rfl,hv,gD⟩:=tv.lh
 clear tv
 obtain rfl:=gD.none
 refine rM hb fun u=>?_
 refine wpAny_binaryOp_repeat_ref (T:="list") (U:="int") (by decide) ⟨_,BB,rfl⟩ (fun s'=>typeIs_int s' y u) noFill_list_mul PySem.F.fills_int_mul PySem.F.slot_int_rmul repeat_list PySem.F.slot_int_index.lookup
  (call_meets PySem.F.slot_int_rmul (typeIs_int s y u) PySem.F.entry_int_rmul (PySem.F.args_int_rmul_2 _ _) (int___rmul___int_list y u la [v].toArray na)
    ⟨BB,rfl,⟨_,BB,rfl⟩,call_meets PySem.F.slot_list_mul ⟨_,BB,rfl⟩ PySem.F.entry_list_mul (PySem.F.args_list_mul_2 _ _)
      (AutoListH.list___mul___list_int_3 la [v].toArray na y u (by simp[Builtin.List.listFitsIndex];exact⟨Int.le_trans (by decide) h0,Int.lt_of_le_of_lt h1 (by decide)⟩) (by show ¬1*y.toNat>(2 ^ 63-1) / 8;exact Nat.not_lt.mpr ((Nat.one_mul _).symm▸af (Int.toNat_le.mpr h1) (by decide))) (by
        simp only[Builtin.List.listTooLong,sizeLine];simp;lia))
      ⟨BB,?_⟩⟩)
 have e:List.foldl (fun x1 x2=>x1++x2) #[] (List.replicate (if([v].toArray).isEmpty=true then 0 else y.toNat) [v].toArray)=(List.replicate y.toNat v).toArray:=(foldl_rep v y.toNat #[]).trans (Array.empty_append ..)
 refine ae e ?_
 exact mC S h (dm.replicate hv _) (cO _) (cE _) (bt _ rfl) (by exact ae cM (Int.toNat_le.mpr (Int.le_trans h1 (by decide))))
theorem LM(S:SR D F W env me st rv s.heap){x y:Int}{k:Bool→MV→aH}{t u:Tok}(h:k false (.int (x ^ y.toNat))=some out)(hg:qx x y=true):
 wpAny (model D.prog D.w) A (binaryOp .Pow (.int x t) (.int y u)) (oo D F W env me st rv s k out) E s:=by
 obtain⟨p,q⟩:=au.mp hg
 obtain⟨h0,h1⟩:=au.mp p
 obtain⟨h2,h3⟩:=au.mp q
 have h0:=aj h0
 have h1:=aj h1
 have h2:=aj h2
 have h3:=aj h3
 clear hg p q
 refine AutoIntOpsIf.pow (ae (aF h2) ?_)
 by_cases c1:(y==0)=true
 .refine ae (aF c1) (eV S (ae (?_:(1:Int)=x ^ y.toNat) h))
  rw[eq_of_beq c1];exact(Int.pow_zero x).symm
 .refine ae (az c1) ?_
  by_cases c2:(x==0||x==1)=true
  .refine ae (aF c2) (eV S (ae (?_:x=x ^ y.toNat) h))
   clear h0 h1 h
   rcases Bool.or_eq_true_iff.mp c2 with q|q
   .rw[eq_of_beq q];exact(Int.zero_pow fun z=>c1 (beq_iff_eq.mpr (Int.le_antisymm (Int.toNat_eq_zero.mp z) h2))).symm
   .rw[eq_of_beq q];exact Int.one_pow.symm
  .have c3: ¬(x== -1)=true:=fun q=>absurd (eq_of_beq q▸h0) (by decide)
   have c4:Builtin.Int.intBits x≤200:=by
    unfold Builtin.Int.intBits
    split
    .exact Nat.zero_le _
    .rename_i q
     exact(Nat.log2_lt (fun e=>q (beq_iff_eq.mpr (Int.natAbs_eq_zero.mp e))) (k:=200)).mpr (by lia)
   have h5:((Builtin.Int.intBits x:Nat):Int)*y≤200*64:=Int.mul_le_mul (Int.ofNat_le.mpr c4) h3 h2 (by decide)
   rw[az c2,az c3,az (show ¬Builtin.Int.intTooBig (Builtin.Int.intBits x*y)=true from fun q=>absurd (aj q) (Int.not_lt.mpr (Int.le_trans h5 (show(200*64:Int)≤((bitsLine:Nat):Int) by decide))))]
   exact eV S h
theorem CZ{op:Operator}{a b:MV}{k:Bool→MV→aH}(h:m5 op a b k=some out)(S:SR D F W env me st rv s.heap){va vb:Value}(ha:D.VR F a va)(hb:D.VR F b vb):
 wpAny (model D.prog D.w) A (binaryOp op va vb) (oo D F W env me st rv s k out) E s:=by
 induction op using Operator.casesOn with
 |Add=>
  induction a using MV.casesOn with
  |int x=>
   obtain⟨y,rfl,g⟩:=dE h
   clear h
   exact rM ha fun t=>rM hb fun u=>add_int (eV S g)
  |list x=>
   obtain⟨y,rfl,g⟩:=ju h
   clear h
   obtain⟨hg,g⟩:=aJ g
   exact FM S g (aj hg) ha hb
  |str x=>
   obtain⟨y,rfl,g⟩:=oX h
   clear h
   obtain⟨hg,g⟩:=aJ g
   exact Je ha fun t=>Je hb fun u=>PyProof.Rows.add_str (fun t' tk=>LO S g) (af (aj hg) (by decide))
  |_=>exact nn h
 |Sub=>exact kL h ha hb fun x y t u h=>sub_int (eV S h)
 |Mult=>
  obtain⟨y,rfl,g⟩:=dE h
  clear h
  induction a using MV.casesOn with
  |int x=>
   obtain⟨hg,g⟩:=aJ g
   exact rM ha fun t=>rM hb fun u=>PyProof.Rows.mul_int (eV S g) ((Bool.or_eq_true_iff.mp hg).elim (fun q=>IntMulOk.of_left (sG q)) fun q=>IntMulOk.of_right (sG q))
  |list ts=>
   obtain⟨t,r,rfl,h⟩:=bL g
   clear g
   obtain⟨rfl,g⟩:=cm h
   clear h
   obtain⟨hg,g⟩:=aJ g
   obtain⟨h0,h1⟩:=au.mp hg
   exact FN S g (aj h0) (aj h1) ha hb
  |_=>exact nn g
 |FloorDiv=>
  refine kL h ha hb fun x y t u h=>?_
  obtain⟨hg,h⟩:=aJ h
  exact floordiv_int (zI hg).1 (eV S h) (.inl ((zI hg).2.2 _))
 |Mod=>
  refine kL h ha hb fun x y t u h=>?_
  obtain⟨hg,h⟩:=aJ h
  exact PyProof.Rows.mod_int (zI hg).1 (eV S h)
 |Pow=>
  refine kL h ha hb fun x y t u h=>?_
  obtain⟨hg,h⟩:=aJ h
  exact LM S h hg
 |BitAnd=>exact kL h ha hb fun x y t u h=>and_int (eV S h)
 |BitOr=>exact kL h ha hb fun x y t u h=>or_int (eV S h)
 |LShift=>
  refine kL h ha hb fun x y t u h=>?_
  obtain⟨hg,h⟩:=aJ h
  obtain⟨h0,h1⟩:=au.mp hg
  obtain⟨h1,h2⟩:=au.mp h1
  exact lshift_int_small (aj h1) (aj h2) (aj h0) (eV S h)
 |RShift=>
  refine kL h ha hb fun x y t u h=>?_
  obtain⟨hg,h⟩:=aJ h
  have h0:0≤y:=aj hg
  refine AutoIntOpsIf.rshift (ae (az (Int.not_lt.mpr h0)) ?_)
  by_cases c:y≥((Builtin.Int.intBits x:Nat):Int)
  .exact ae (aF c) (ae (Hy (n:=y.toNat) ((Int.le_toNat (aj ‹decide (0≤y)=true›)).mpr c)) (eV S h))
  .exact ae (az c) (eV S h)
 |_=>exact nn h
end
section
theorem s6(i:Int)(js:List Int):js.any (· ==i)=decide (i∈js):=by
 induction js with
 |nil=>simp
 |cons j r ih=>
  simp only[bO,ih,aA]
  by_cases h:j=i
  .subst h;simp
  .have: ¬i=j:=fun e=>h e.symm
   simp[h,this]
theorem vV{cJ:FH}{i:Int}(h:D.f0 F cJ (.int i) v): ∃t,v= .int i t:=by obtain⟨Y,a,Y⟩:=h;exact a.1
theorem ML{cJ:FH}(h:D.f0 F cJ (.str x) v): ∃t,v= .str x t:=by obtain⟨Y,a,Y⟩:=h;exact a.1
theorem Bq{cJ:FH}(h:D.f0 F cJ .none v):v= .none:=by obtain⟨Y,a,Y⟩:=h;exact a.1
inductive VQ(s:Shared)(k:Bool→aH)(out:MV×Option MV)(v:Value)(s':Shared):Prop where
 |mk (c:Bool) (h0:k c=some out) (h1:v= .bool c) (h2: ∃tk,s'={ s with toks:=tk })
theorem z7{cJ:FH}(h:D.f0 F cJ t v):(v==Value.none)=isNone t:=by
 obtain⟨vs,h,Y⟩:=h
 induction t using MV.casesOn with
 |none=>exact aB (· ==Value.none) h.1
 |bool=>exact aB (· ==Value.none) h.1
 |int=>exact h.1.elim fun Y=>aB (· ==Value.none)
 |str=>exact h.1.elim fun Y=>aB (· ==Value.none)
 |tup=>exact h.elim fun Y h=>h.elim fun Y h=>aB (· ==Value.none) h.1
 |list=>exact h.elim fun Y h=>h.elim fun Y h=>aB (· ==Value.none) h.1
 |range=>obtain⟨⟨a,t,u,x,e,Y⟩,Y⟩:=h;exact aB (· ==Value.none) e
 |set=>obtain⟨⟨a,o,e,Y⟩,Y⟩:=h;exact aB (· ==Value.none) e
 |dict=>obtain⟨a,o,gt,e,Y⟩:=h;exact aB (· ==Value.none) e
 |inst=>obtain⟨a,d,es,n,e,Y⟩:=h;exact aB (· ==Value.none) e
 |fn=>obtain⟨⟨a,o,fd,e,Y⟩,Y⟩:=h;exact aB (· ==Value.none) e
theorem EW(ha:ey A n):A.units+64<cLine:=by rw[cLine_is];exact bT (Nat.add_lt_add_right (aX (bN _ _) ha.un) 64) (by decide)
structure DI(D:Wd)(A:Around)(E:Value→Shared→Prop)(s:Shared)(o o':CmpOp)(va vb:Value)(P:(Value→Shared→Prop)→Bool→Prop)(b:Bool):Prop where
 yes: ∀{Q:Value→Shared→Prop},P Q b→wpAny (model D.prog D.w) A (compareOp o va vb) Q E s
 no: ∀{Q:Value→Shared→Prop},P Q (!b)→wpAny (model D.prog D.w) A (compareOp o' va vb) Q E s
theorem Gb{xs ys:List MV}{b:Bool}(h:NN xs ys=some b){va vb:Value}(ha:D.f0 F s.heap.get? (.list xs) va)(hb:D.f0 F s.heap.get? (.list ys) vb)(hA:ey A n):DI D A E s .Eq .NotEq va vb (fun Q b=>Q (.bool b) s) b:=by
 obtain⟨la,na,vs,rfl,BB,tv,Y⟩:=gf ha
 clear ha
 obtain⟨lb,nb,ws,rfl,GF,vk,Y⟩:=gf hb
 clear hb
 have hu:=EW hA
 have len (lw:xs.length≠ys.length):DI D A E s .Eq .NotEq (.ref la) (.ref lb) (fun Q b=>Q (.bool b) s) false:=by
  have hsz:(vs.toArray.size != ws.toArray.size)=true:=bne_iff_ne.mpr fun q=>lw (tv.length.symm.trans (Eq.trans q vk.length))
  exact⟨fun q=>PySem.SeqAt.eq_list_lengthsAt (dj BB) (dj GF) hsz (aX (bN _ 64) ‹_›) q,fun q=>PySem.SeqAt.RcNeAt.lists_lengths (dj BB) (dj GF) hsz (aX (bN _ 64) ‹_›) D.prog D.w E _ q⟩
 have JC {i j:List Int} (h1:ints? xs=some i) (h2:ints? ys=some j):DI D A E s .Eq .NotEq (.ref la) (.ref lb) (fun Q b=>Q (.bool b) s) (decide (i=j)):=
  ⟨fun q=>eq_intsK (dj BB) (tv.ints h1) (dj GF) (vk.ints h2) hu q,fun q=>ne_intsK (dj BB) (tv.ints h1) (dj GF) (vk.ints h2) hu q⟩
 clear tv vk
 induction xs using aO with
 |nil=>
  obtain rfl:=b8 h
  induction ys using aO with
  |nil=>exact JC rfl rfl
  |cons _ _=>exact len nofun
 |cons _ _=>
  induction ys using aO with
  |nil=>exact b8 h▸len nofun
  |cons _ _=>
   obtain⟨i,h1,h⟩:=cL h
   obtain⟨j,h2,rfl⟩:=cu.mp h
   exact JC h1 h2
theorem wu{d:Addr}{f:Int→Option Value}{k:Int}{t:Tok}(hm:s.heap.IntMap d f)
 (h:Q (.bool (!(f k).isSome)) { s with toks:=s.toks+1 }):wpAny (model D.prog D.w) A (compareOp .NotIn (.int k t) (.ref d)) Q E s:=by
 refine ak ?_
 unfold contains
 try with_reducible refine wpAny_holding ?_
 refine ak (wpAny_specialOf hm.typeIs slot_dict_contains.lookup ?_)
 refine ae (az (by rw[beq_builtin_none];exact cA)) ?_
 refine ak (wpAny_callSpecialUnlessNone?_slot (name:=Str.ofString "__contains__") hm.typeIs slot_dict_contains
  (wpAny_call_entry slot_dict_contains hm.typeIs entry_dict_contains ?_ (args_dict_contains _ _)))
 refine(?_:wpAny _ _ (dictGet d (.int k t) >>= _) _ _ s)
 refine ak (wpAny_dictGet_int hm ?_)
 induction hf:f k using ab with
 |some v=>
  rw[hf]at h
  exact av ⟨_,rfl,wpAny_truthy_bool (av h)⟩
 |none=>
  rw[hf]at h
  exact ak (wpAny_pendingKey_int (av ⟨_,rfl,wpAny_truthy_bool (av h)⟩))
theorem tM(gt:List (Int×Value))(k:Int):valueAt gt k=rL (gt.map (·.1)) (gt.map (·.2)) k:=by
 induction gt with
 |nil=>rfl
 |cons p r ih=>
  refine(?_:valueAt (p::r) k=if k=p.1 then some p.2 else valueAt r k).trans (ih▸rfl)
  unfold valueAt
  by_cases e:k=p.1
  .rw[List.find?_cons,aW e.symm,aF e];rfl
  .rw[List.find?_cons,cz fun q=>e q.symm,az e]
theorem yh{d:Addr}{gt:List (Int×Value)}(ho:h.get? d=some o)(hd:o.IsDictOf (intKind D.prog D.w) gt):h.IntMap d (rL (gt.map (·.1)) (gt.map (·.2))):=by
 have:=(Heap.DictOf.mapOf (Heap.dictOf_iff.mpr ⟨o,ho,hd⟩)).intMap
 have e:valueAt gt=rL (gt.map (·.1)) (gt.map (·.2)):=funext (tM gt)
 rw[e]at this;exact this
theorem zX{ks:List Int}(i:Int)(h:ks.length=vs.length):(rL ks vs i).isSome=decide (i∈ks):=by
 induction ks generalizing vs with
 |nil=>rfl
 |cons k ks ih=>
  induction vs using aO with
  |nil=>exact nomatch h
  |cons v vs=>
   refine(?_:(if i=k then some v else rL ks vs i).isSome=_)
   by_cases e:i=k
   .rw[aF e,aW (e▸ .head _)];rfl
   .rw[az e,ih (Nat.succ.inj h)]
    exact decide_eq_decide.mpr ⟨.tail _,fun q=>(aA.mp q).resolve_left e⟩
theorem xS{a b:MV}{c:Bool}(h:SW a b=some c){va vb:Value}(ha:D.f0 F s.heap.get? a va)(hb:D.f0 F s.heap.get? b vb):DI D A E s .In .NotIn va vb (fun Q c=> ∀tk,Q (.bool c) { s with toks:=tk }) c:=by
 obtain⟨i,rfl,g⟩:=dE h
 clear h
 obtain⟨t,rfl⟩:=vV ha
 clear ha
 induction b using MV.casesOn with
 |list ts=>
  obtain⟨lb,nb,ws,rfl,GF,vk,Y⟩:=gf hb
  obtain⟨js,h1,rfl⟩:=cu.mp g
  exact⟨fun q=>in_list_ints (dj GF) (vk.ints h1) (ae (s6 ..) (q _)),fun q=>notin_list_ints (dj GF) (vk.ints h1) (ae (s6 ..) (q _))⟩
 |set is=>
  obtain⟨vs,⟨⟨d,o,rfl,ho,hs,hl⟩,Y⟩,Y⟩:=hb
  obtain rfl:=b8 g
  have hS:=PySem.Obj.SetObjOf.setOf (hs.kind D.prog D.w) ho (show is.length<scanBound by unfold scanBound;lia)
  have hk:(intKind D.prog D.w).is i (.int i t)=true:=by refine(?_:Value.isInt i (.int i t)=true);simp[Value.isInt]
  exact⟨fun q=>wpAny_inSet_of hk rfl hS (q _),fun q=>wpAny_notInSet_of hk rfl hS (q _)⟩
 |dict m ks ts=>
  obtain⟨vs,⟨d,o,gt,rfl,ho,hd,rfl,rfl,hz⟩,hv⟩:=hb
  obtain rfl:=b8 g
  have hM:=yh ho hd
  have e:=zX (ks:=gt.map (·.1)) (vs:=gt.map (·.2)) i ((ai _).trans (ai _).symm)
  exact⟨fun q=>wpAny_in_intMap hM (ae e (q _)),fun q=>wu hM (ae e (q _))⟩
 |_=>exact nn g
@[elab_as_elim] theorem AT{a b:MV}{f:Int→Int→aH}{Q:Value→Value→Prop}{va vb:Value}{cJ:FH}(h:i2 a b f=some out)(ha:D.VR F a va)(hb:D.f0 F cJ b vb)(k: ∀x y t u,f x y=some out→Q (.int x t) (.int y u)):Q va vb:=by
  obtain⟨x,y,p,q,h⟩:=zD h
  subst p q
  obtain⟨t,rfl⟩:=gj ha
  obtain⟨u,rfl⟩:=vV hb
  exact k x y t u h
theorem uV{a b:MV}{f:Bool→Bool}{k:Bool→aH}(h:TC a b f k=some out)(S:dG F s.heap.get?){va vb:Value}(ha:D.VR F a va)(hb:D.f0 F s.heap.get? b vb)(hA:ey A n){P:Prop}
 (yes: ∀c,k (f c)=some out→DI D A E s .Eq .NotEq va vb (fun Q b=>Q (.bool b) s) c→P):P:=by
 induction a using MV.casesOn with
 |int x=>
  obtain⟨y,rfl,g⟩:=dE h
  clear h
  obtain⟨t,rfl⟩:=gj ha;clear ha;obtain⟨u,rfl⟩:=vV hb
  exact yes _ g ⟨PyProof.Rows.eq_int,PyProof.Rows.ne_int⟩
 |str x=>
  obtain⟨y,rfl,g⟩:=oX h
  clear h
  obtain⟨t,rfl⟩:=vI ha;clear ha;obtain⟨u,rfl⟩:=ML hb
  exact yes _ g ⟨PyProof.Rows.eq_str,PyProof.Rows.ne_str⟩
 |list x=>
  obtain⟨y,rfl,g⟩:=ju h
  clear h
  obtain⟨c,e,g⟩:=cL g
  exact yes _ g (Gb e (VR.at S ha) hb hA)
 |_=>exact nn h
theorem mT{op:CmpOp}{a b:MV}{k:Bool→aH}(h:eN op a b k=some out)(S:dG F s.heap.get?){va vb:Value}(ha:D.VR F a va)(hb:D.f0 F s.heap.get? b vb)(hA:ey A n):
 wpAny (model D.prog D.w) A (compareOp op va vb) (VQ s k out) E s:=by
 induction op using CmpOp.casesOn with
 |Eq=>exact uV h S ha hb hA fun c g q=>q.yes ⟨_,g,rfl,_,rfl⟩
 |NotEq=>exact uV h S ha hb hA fun c g q=>q.no ⟨_,g,rfl,_,rfl⟩
 |Lt=>exact AT h ha hb fun Y Y Y Y h=>PyProof.Rows.lt_int ⟨_,h,rfl,_,rfl⟩
 |LtE=>exact AT h ha hb fun Y Y Y Y h=>PyProof.Rows.le_int ⟨_,h,rfl,_,rfl⟩
 |Gt=>exact AT h ha hb fun Y Y Y Y h=>PyProof.Rows.gt_int ⟨_,h,rfl,_,rfl⟩
 |GtE=>exact AT h ha hb fun Y Y Y Y h=>PySem.P.ge_int ⟨_,h,rfl,_,rfl⟩
 |Is=>
  induction b using MV.casesOn with
  |none=>
   obtain rfl:=Bq hb
   exact is_none (ae (z7 (VR.at S ha)) ⟨_,h,rfl,_,rfl⟩)
  |_=>exact nn h
 |In=>
  obtain⟨c,e,g⟩:=cL h
  exact(xS e (VR.at S ha) hb).yes fun tk=>⟨_,g,rfl,tk,rfl⟩
 |NotIn=>
  obtain⟨c,e,g⟩:=cL h
  exact(xS e (VR.at S ha) hb).no fun tk=>⟨_,g,rfl,tk,rfl⟩
 |_=>exact nn h
theorem EX{op:UnaryOp}{a:MV}{k:MV→aH}(h:MS op a k=some out)(S:SR D F W env me st rv s.heap){va:Value}(ha:D.VR F a va):
 wpAny (model D.prog D.w) A (unaryOp op va) (oo D F W env me st rv s (fun Y t=>k t) out) E s:=by
 induction op using UnaryOp.casesOn with
 |USub=>
  obtain⟨x,rfl,g⟩:=dE h
  exact rM ha fun t=>PyProof.Rows.neg_int (eV S g)
 |Invert=>
  obtain⟨x,rfl,g⟩:=dE h
  exact rM ha fun t=>invert_int (eV S g)
 |_=>exact nn h
theorem oZ{a:MV}{b:Bool}(h:iW a=some b){va:Value}(ha:D.f0 F s.heap.get? a va){Q:Bool→Shared→Prop}(hq: ∀tk,Q b { s with toks:=tk }):
 wpAny (model D.prog D.w) A (truthy va) Q E s:=by
 induction a using MV.casesOn with
 |none=>obtain rfl:=b8 h;exact Bq ha▸av (hq _)
 |bool=>
  obtain rfl:=b8 h
  obtain⟨vs,⟨rfl,Y⟩,Y⟩:=ha
  exact wpAny_truthy_bool (hq _)
 |int=>obtain rfl:=b8 h;obtain⟨t,rfl⟩:=vV ha;exact P.truthy_int (hq _)
 |list ts=>
  obtain rfl:=b8 h
  obtain⟨la,na,vs,rfl,ho,hv,hz⟩:=gf ha
  have e:vs.toArray.isEmpty=ts.isEmpty:=by
   clear hq h ha ho hz
   induction hv<;>rfl
  exact wpAny_truthy_list (dj ho) (by simp[hv.length];lia) (ae e (hq _))
 |_=>exact nn h
end
section
theorem yL{ks:List Int}{i:Int}(hv:D.dm F ts vs)(h:xe ks ts i=some t): ∃v,rL ks vs i=some v∧D.VR F t v:=by
 induction ks generalizing ts vs with
 |nil=>exact nn h
 |cons k ks ih=>
  induction hv using vH.casesOn with
  |nil=>exact nn h
  |cons a b=>
   by_cases e:i=k
   .exact⟨_,aF e,b8 ((aF e).symm.trans h)▸a⟩
   .obtain⟨v,h1,h2⟩:=ih b ((az e).symm.trans h)
    exact⟨v,(az e).trans h1,h2⟩
inductive VM(D:Wd)(F:FH)(s:Shared)(k:MV→aH)(out:MV×Option MV)(v:Value)(s':Shared):Prop where
 |mk (t:MV) (tk:Nat) (h0:k t=some out) (h1:D.VR F t v) (h2:s'={ s with toks:=tk })
structure VL(D:Wd)(A:Around)(E:Value→Shared→Prop)(F:FH)(s:Shared)(k:MV→aH)(out:MV×Option MV)(vc vi:Value):Prop where
 w:wpAny (model D.prog D.w) A (getItem vc vi) (VM D F s k out) E s
 ty: ∃T id,s.TypeIs vc T∧typeLookup (.type T) "__getitem__"=pure (some (.builtin id))
theorem wa{i:Int}(h:pC i n=true):0≤i∧i<n∧i<9223372036854775808:=by
 obtain⟨a,b⟩:=au.mp h
 obtain⟨b,c⟩:=au.mp b
 exact⟨aj a,aj b,aj c⟩
theorem CB{c i:MV}{k:MV→aH}(h:ea c i k=some out){vc vi:Value}(hc:D.f0 F s.heap.get? c vc)(hi:D.VR F i vi):VL D A E F s k out vc vi:=by
 obtain⟨i,rfl,g⟩:=dE h
 clear h
 obtain⟨t,rfl⟩:=gj hi
 clear hi
 induction c using MV.casesOn with
 |list ts=>
  obtain⟨la,na,vs,rfl,ho,hv,Y⟩:=gf hc
  clear hc
  obtain⟨hg,g⟩:=aJ g
  obtain⟨u,e,g⟩:=cL g
  obtain⟨v,hx,hr⟩:=hv.get e
  obtain⟨h0,Y,h1⟩:=wa hg
  exact⟨wpAny_getItem_list (dj ho) h0 h1 (List.getElem?_toArray.trans hx) ⟨_,_,g,hr,rfl⟩,"list",_,(dj ho).typeIs,slot_list_getitem.lookup⟩
 |tup ts=>
  obtain⟨vs,⟨la,na,rfl,ho⟩,hv⟩:=hc
  obtain⟨hg,g⟩:=aJ g
  obtain⟨u,e,g⟩:=cL g
  obtain⟨v,hx,hr⟩:=dm.get hv e
  obtain⟨h0,h2,h1⟩:=wa hg
  have ht:IsTup s.heap la vs.toArray:=⟨_,ho,rfl,na,rfl⟩
  have h2:i<(vs.toArray.size:Int):=Int.lt_of_lt_of_le h2 (Int.le_of_eq (aB Int.ofNat (dm.length hv).symm))
  have hj:seqIndex? i vs.toArray.size=some i.toNat:=by
   unfold seqIndex?
   refine ae (az (Int.not_lt.mpr h0)) (aF ?_)
   rw[aW h0,aW h2];rfl
  exact⟨PyProof.Rows.getItem_tuple ht (by lia) (by lia) hj (List.getElem?_toArray.trans hx) ⟨_,_,g,hr,rfl⟩,"tuple",_,ht.typeIs,slot_tuple_getitem.lookup⟩
 |dict m ks ts=>
  obtain⟨vs,⟨d,o,gt,rfl,ho,hd,rfl,rfl,hz⟩,hv⟩:=hc
  have hM:=yh ho hd
  obtain⟨u,e,g⟩:=cL g
  obtain⟨v,hx,hr⟩:=yL hv e
  exact⟨wpAny_getItem_intMap hM hx ⟨_,_,g,hr,rfl⟩,"dict",_,hM.typeIs,slot_dict_getitem.lookup⟩
 |_=>exact nn g
theorem jB(h:Heap):h.get? (h.objs.size+1)=none:=by
 induction q:h.get? (h.objs.size+1)using ab with
 |none=>rfl
 |some o=>exact absurd (cr q) (by refine(?_: ¬(h.objs.size+1<h.objs.size));lia)
theorem uJ(o':Obj)(hf:o'.isFreed=false):((h.push o).push o').get? (h.objs.size+1)=some o':=by
 refine ft (Heap.size_push h o) ?_
 exact bt _ hf
noncomputable def uA(D:Wd)(F:FH)(t:Option MV)(v:Value):Prop:=match t with
 |none=>v= .none
 |some t=>D.VR F t v
theorem pz{slice:Expr}(h:oU slice=false)(o i:Value):subscripted slice false o i=operate [o,i] (getItem o i):=by
 induction slice using Expr.casesOn<;>first|rfl|exact Gy h
theorem nS{iP:Expr}{lo hi:Option Expr}{p:Pos}{t:Tok}{i:Value}(h:ItemOn (model D.prog D.w) A E (.str x t) i Q s):wpAny (model D.prog D.w) A (subscriptTail iP (.Slice lo hi none p) (.str x t) i) Q E s:=
 tail_of_ItemOn h rfl fun r=>by induction iP using Expr.casesOn<;>rfl
theorem slice_list(S:SR D F W env me st rv s.heap){j:Int}{k:Bool→MV→aH}(h0:0≤j)(hz:ts.length≤1000000)(h:k true (.list (ts.take j.toNat))=some out){vc:Value}{u:Tok}(hc:D.VR F (.list ts) vc){iP:Expr}{lo hi:Option Expr}{p:Pos}:
 wpAny (model D.prog D.w) A (subscriptTail iP (.Slice lo hi none p) vc (.ref s.heap.objs.size)) (oo D F W env me st rv s k out) E { s with heap:=s.heap.push { cls:= .type "slice",data:= .fields #[.none,.int j u,.none]}}:=by
 obtain⟨la,na,vs,rfl,ho,hv,Y⟩:=oJ S.fz hc
 have hl:=hv.length
 have hL:({ s with heap:=s.heap.push { cls:= .type "slice",data:= .fields #[.none,.int j u,.none]}}:Shared).heap.IsList la vs.toArray:=(dj ho).push _
 refine tail_any hL.typeIs slot_list_getitem.lookup (wpAny_getItem_list_slice hL (Heap.IsSliceOf.new ..) .none (.int _ _) .none (fun z=>nomatch z) ?_ (af (c6 hl) (af hz (aa rfl)))) rfl
 have e:slicePick vs.toArray none (some j) none=(vs.take j.toNat).toArray:=Int.toNat_of_nonneg h0▸slicePick_upto' vs.toArray j.toNat
 refine ae e (ae (Heap.size_push ..) ?_)
 have kp: ∀b o,s.heap.get? b=some o→_:=fun b o q=>cO (listOf (vs.take j.toNat).toArray 0) b o (cO { cls:= .type "slice",data:= .fields #[.none,.int j u,.none]} b o q)
 refine⟨true,_,h,dU.same kp,S.ext kp,S.Sx (o:=listOf (vs.take j.toNat).toArray 0) (jB _) (uJ _ rfl) rfl rfl ⟨vs.take j.toNat,⟨_,0,rfl,uJ _ rfl,?_⟩,dm.take _ hv⟩,fun Y a q=>eM q▸jB _⟩
 exact af (List.length_take_le' _ _) (af (c6 hl) (af hz (aa rfl)))
theorem yB{c:MV}{l u:Option MV}{k:Bool→MV→aH}(h:Ed c l u k=some out)(S:SR D F W env me st rv s.heap){vc vl vu:Value}(hc:D.VR F c vc)(hl:uA D F l vl)(hu:uA D F u vu){iP:Expr}{lo hi:Option Expr}{p:Pos}:
 wpAny (model D.prog D.w) A (subscriptTail iP (.Slice lo hi none p) vc (.ref s.heap.objs.size)) (oo D F W env me st rv s k out) E { s with heap:=s.heap.push { cls:= .type "slice",data:= .fields #[vl,vu,.none]}}:=by
 have hk:KeptH (fun h':Heap=> ∀b o,s.heap.get? b=some o→h'.get? b=some o):=fun h' o q b ob e=>bq _ (q b ob e)
 have fin {x:Str} (h:k false (.str x)=some out) (h':Heap) (t':Tok) (k':Nat) (q: ∀b o,s.heap.get? b=some o→h'.get? b=some o):oo D F W env me st rv s k out (.str x t') { s with heap:=h',toks:=k' }:=
  ⟨false,_,h,dU.same q,S.ext q,vM (D:=D) (F:=F),ew⟩
 induction c using MV.casesOn with
 |str x=>
  obtain⟨t,rfl⟩:=vI hc
  clear hc
  obtain⟨hg,h⟩:=aJ h
  have hz:=af (aj hg) (show 1000000≤sizeLine by decide)
  clear hg
  induction l using ab with
  |none=>
   obtain rfl:vl= .none:=hl
   obtain⟨u,rfl,g⟩:=cL h
   clear h
   obtain⟨j,rfl,g⟩:=dE g
   obtain⟨u',rfl⟩:=gj hu
   exact nS (SBH.sliceItem_ns hk (fun Y Y e=>e) (fin g) hz)
  |some l=>
   obtain⟨i,rfl,g⟩:=dE h
   clear h
   obtain⟨u',rfl⟩:=gj hl
   induction u using ab with
   |none=>
    obtain rfl:vu= .none:=hu
    exact nS (SBH.sliceItem_sn hk (fun Y Y e=>e) (fin g) hz)
   |some u=>
    obtain⟨j,rfl,g⟩:=dE g
    obtain⟨ZR,rfl⟩:=gj hu
    exact nS (SBH.sliceItem_ss hk (fun Y Y e=>e) (fin g) hz)
 |list ts=>
  clear fin hk
  induction l using ab with
  |none=>
   obtain rfl:vl= .none:=hl
   obtain⟨u,rfl,g⟩:=cL h
   clear h
   obtain⟨j,rfl,g⟩:=dE g
   obtain⟨u',rfl⟩:=gj hu
   obtain⟨hg,g⟩:=aJ g
   obtain⟨h0,h1⟩:=au.mp hg
   exact slice_list S (aj h0) (aj h1) g hc
  |some _=>exact nn h
 |_=>exact nn h
end
section
theorem oo.post{bK:FH}{aR:St}{bk d3:Shared}{k':Bool→MV→aH}(P:dU F st rv s bK aR bk)(hk: ∀o t,k' o t=k o t aR)(h:oo D bK W env me aR rv bk k' out v d3):bP D F W env me st rv s k out v d3:=by
 obtain⟨o,t,h1,P',S',hr,hf⟩:=h
 exact⟨bK,o,t,aR,(hk o t).symm.trans h1,P.trans P',S',hr,fun e a q=>P.e7 (hf e a q)⟩
theorem bP.dD{F':FH}{bB:St}{s':Shared}(h:k false t bB=some out)(P:dU F st rv s F' bB s')(S:SR D F' W env me bB rv s'.heap)(hv:D.VR F' t v):bP D F W env me st rv s k out v s':=
 ⟨F',false,t,bB,h,P,S,hv,ew⟩
theorem yb(hR:d4 D n R)(ha:ey A n)(hc:cy D n cx env)(S:SR D F W env me st rv s.heap){op:Operator}{l r:Expr}
 (h:(R cx l st fun Y a st=>R cx r st fun Y b st=>m5 op a b fun o t=>k o t st)=some out):wpAny (model D.prog D.w) A (eval (.BinOp l op r pos) env) (bP D F W env me st rv s k out) E s:=by
 refine wpAny_BinOp (wm (hR.aw (k:=fun a st=>R cx r st fun Y b st=>m5 op a b fun o t=>k o t st) h ha hc S) ?_)
 rintro va bk ⟨bK,a,aR,aP,bX,bh,tv⟩
 refine wm (hR.aw (k:=fun b st=>m5 op a b fun o t=>k o t st) aP ha hc bh) ?_
 rintro vb d3 ⟨fW,b,eD,dy,fC,eT,vk⟩
 exact wm (CZ dy eT (VR.mono fC.le tv) vk) (fun v s' q=>oo.post (bX.trans fC) (fun Y Y=>rfl) q)
theorem sR(hR:d4 D n R)(ha:ey A n)(hc:cy D n cx env)(S:SR D F W env me st rv s.heap){op:UnaryOp}{x:Expr}
 (h:(R cx x st fun Y t st=>MS op t fun t=>k false t st)=some out):wpAny (model D.prog D.w) A (eval (.UnaryOp op x pos) env) (bP D F W env me st rv s k out) E s:=by
 refine wpAny_UnaryOp (wm (hR.aw (k:=fun t st=>MS op t fun t=>k false t st) h ha hc S) ?_)
 rintro va bk ⟨bK,a,aR,aP,bX,bh,tv⟩
 refine wm (EX aP bh tv) ?_
 rintro v s' ⟨o,t,h2,P',S',hr,hf⟩
 induction o using ag with
 |false=>exact bP.dD h2 (bX.trans P') S' hr
 |true=>
  obtain⟨NW,BF,TK,hv⟩:=hE.freeze S' P' hr hf
  exact bP.dD h2 (bX.trans TK) BF hv
theorem Mi(hR:d4 D n R)(ha:ey A n)(hc:cy D n cx env)(S:SR D F W env me st rv s.heap){x:Expr}
 (h:(R cx x st fun Y t st=>(iW t).bind fun b=>k false (.bool (!b)) st)=some out):wpAny (model D.prog D.w) A (eval (.UnaryOp .Not x pos) env) (bP D F W env me st rv s k out) E s:=by
 refine wpAny_UnaryOp (wm (hR.aw h ha hc S) ?_)
 rintro va bk ⟨bK,a,aR,aP,bX,bh,tv⟩
 obtain⟨b,e,aP⟩:=cL aP
 exact not_of (oZ e (VR.at bh.fz tv) fun tk=>bP.dD aP (bX.trans (dU.same fun Y Y q=>q)) bh (ru (D:=D) (F:=bK)))
theorem St.eP(st:St)(x y:fG)(sl:Slot):(st.put x sl).get y=if y=x then some sl else st.get y:=by
 induction st with
 |nil=>rfl
 |cons p r ih=>
  unfold St.put
  by_cases h:x=p.1
  .rw[aF h]
   by_cases q:y=p.1
   .rw[aF (q.trans h.symm)];exact aF q
   .rw[az fun e=>q (e.trans h)];exact(az q).trans (az q).symm
  .rw[az h]
   by_cases q:y=p.1
   .rw[az fun e=>h (e.symm.trans q)];exact(aF q).trans (aF q).symm
   .exact(az q).trans (ih.trans (by rw[show St.get (p::r) y=St.get r y from az q]))
theorem St.Gv(st:St)(x:fG)(sl:Slot):(st.put x sl).get x=some sl:=(St.eP ..).trans (aF rfl)
theorem St.At{x y:fG}{sl:Slot}(h:y≠x):(st.put x sl).get y=st.get y:=(St.eP ..).trans (az h)
theorem St.eG{x y:fG}{sl wQ:Slot}(h:(st.put x sl).get y=some wQ):(y=x∧wQ=sl)∨(y≠x∧st.get y=some wQ):=
 if q:y=x then .inl ⟨q,(b8 ((aF q).symm.trans ((St.eP ..).symm.trans h))).symm⟩else .inr ⟨q,(St.At q).symm.trans h⟩
theorem St.f8{x:fG}{aZ:Slot}(sl:Slot)(h:st.get x=some aZ):(st.put x sl).map (·.1)=st.map (·.1):=by
 induction st with
 |nil=>exact nn h
 |cons p r ih=>
  unfold St.put
  by_cases q:x=p.1
  .rw[aF q];rfl
  .rw[az q];exact aB (p.1:: ·) (ih ((az q).symm.trans h))
theorem FH.to{a b:Addr}(h:b≠a):F.add a o b=F b:=az h
theorem SR.ve(S:SR D F W env me st rv s.heap){x:fG}(h:st.get x=some (.own t)):
 ∃F' v,rv x=some v∧D.VR F' t v∧dU F st rv s F' (st.put x (.aw t)) s∧SR D F' W env me (st.put x (.aw t)) rv s.heap:=by
 obtain⟨v,hv,iG,hb,hx⟩:=S.sl x _ h
 obtain⟨a,ha,hF,hW,oe⟩:=S.held x _ h rfl
 obtain rfl:=dZ ha hv
 clear hv
 obtain⟨o,ho,Y⟩:=hb a rfl
 have le:dG F (F.add a o):=FH.li hF
 have hr:=Bn hx hF ho iG
 have nG {k:fG} {sl:Slot} (e:(st.put x (.aw t)).get k=some sl) (hs:sl.dX=true):k≠x∧st.get k=some sl:=by
  rcases St.eG e with⟨Y,rfl⟩|q
  .exact ew hs
  .exact q
 have cK {k:fG} {t':MV} (e:(st.put x (.aw t)).get k=some (.cK t')):st.get k=some (.cK t'):=(nG e rfl).2
 clear iG hb hx
 refine⟨F.add a o,_,ha,hr,⟨⟨_,_,rfl⟩,le,fun b ob e=>?_,fun Y Y e Y=>e,fun b q=>?_,fun b q=>?_,fun Y e=>e,⟨fun k t' e=>⟨t',?_⟩,fun k t' e=>⟨t',cK e⟩⟩,St.f8 _ h⟩,?_⟩
 .rcases FH.iF e with q|⟨rfl,Y⟩
  .exact .inl q
  .exact .inr (.inr ⟨x,_,h,rfl,ha⟩)
 .obtain⟨k,sl,h1,h2,h3⟩:=q
  exact⟨k,sl,(nG h1 (Slot.dY h2)).2,h2,h3⟩
 .obtain⟨k,sl,h1,h2,h3⟩:=q
  exact⟨k,sl,(nG h1 h2).2,h2,h3⟩
 .exact(St.At fun q=>by rw[q,h]at e;exact nomatch e).trans e
 .refine⟨fun b ob e=>?_,S.base.trans le,fun b w=>?_,S.wx,fun k sl e=>?_,fun k sl e hs=>?_,fun k k' sl wQ b e e' hm hh=>S.dist k k' sl wQ b (nG e (Slot.dY hm)).2 (nG e' hh).2 hm hh,S.As,S.Gu,fun i C d e=>?_,⟨S.pw.1,fun p hp=>(S.pw.2 p hp).imp id fun q=>q.imp fun o e=>le _ _ e⟩,S.ma.keys (St.f8 _ h),S.mw,S.Bt,S.tn⟩
  .exact(FH.iF e).elim (S.fz b ob) fun q=>q.1▸q.2▸ho
  .exact(FH.to fun q:b=a=>hW (q▸w)).trans (S.wf b w)
  .rcases St.eG e with q|q
   .rw[q.1,q.2];exact⟨_,ha,hr⟩
   .obtain⟨v,h1,h2⟩:=S.sl k sl q.2
    exact⟨v,h1,h2.mono le fun Y Y q=>q⟩
  .obtain⟨q,e⟩:=nG e hs
   obtain⟨b,h1,h2,h3⟩:=S.held k sl e hs
   exact⟨b,h1,(FH.to fun z:b=a=>q (S.dist x k _ sl a h e rfl hs ha (z▸h1)).symm).trans h2,h3⟩
  .obtain⟨h1,h2,h3,r⟩:=S.me i C d e
   exact⟨h1,(FH.to (Ne.symm (oe i C d e).1)).trans h2,(FH.to (Ne.symm (oe i C d e).2)).trans h3,r⟩
end
section
theorem SR.e9(S:SR D F W env me st rv s.heap): ∀b o,D.h₀.get? b=some o→s.heap.get? b=some o:=fun b o e=>S.fz b o (S.base b o e)
theorem SR.IJ(S:SR D F W env me st rv s.heap):D.K.In s.heap:=fun a o e=>S.e9 a o (D.X a o e)
theorem AX(S:SR D F W env me st rv s.heap){x:fG}(h:w9 st x k=some out): ∃F' v t bB,rv x=some v∧D.VR F' t v∧dU F st rv s F' bB s∧SR D F' W env me bB rv s.heap∧k false t bB=some out:=by
 unfold w9 at h
 induction e:st.get x using ab with
 |none=>rw[e]at h;exact nn h
 |some sl=>
  rw[e]at h
  induction sl using Slot.casesOn with
  |aw t=>
   obtain⟨v,h1,h2⟩:=S.sl _ _ e
   exact⟨F,v,t,st,h1,h2,dU.refl ..,S,h⟩
  |own t=>
   obtain⟨F',v,h1,h2,P,S'⟩:=S.ve e
   exact⟨F',v,t,_,h1,h2,P,S',h⟩
  |_=>exact nn h
theorem Bf(hc:cy D n cx env)(S:SR D F W env me st rv s.heap)(h:vS cx x st k=some out):
 wpAny (model D.prog D.w) A (eval (.Name x pos) env) (bP D F W env me st rv s k out) E s:=by
 unfold vS at h
 induction q:jP cx x using ag with
 |true=>
  rw[q]at h
  obtain⟨F',v,t,bB,h1,h2,P,S',h⟩:=AX S h
  exact jw hc S q h1 (bP.dD h P S' h2)
 |false=>
  rw[q]at h
  obtain⟨g,h⟩:=aJ h
  have g:=aj g
  obtain⟨t,e,h⟩:=cL h
  obtain⟨v,h1,h2⟩:=hc.glob x t e
  refine Name_function_global hc.kf (hc.ng x g) (loadGlobal_global (mg:=D.mg) (hc.gl▸D.g.keeps S.e9) (mg_of D.X D.g h1) (bP.dD h (dU.refl ..) S (h2 F))) (hc.nd x _ g).1
theorem qa{F cJ:FH}(h:D.f0 F cJ t v):handedIn v=true:=by
 obtain⟨vs,h,Y⟩:=h
 induction t using MV.casesOn with
 |none|bool=>exact aB handedIn h.1
 |int|str=>exact h.1.elim fun Y=>aB handedIn
 |tup=>exact h.elim fun Y h=>h.elim fun Y h=>aB handedIn h.1
 |list=>exact h.elim fun Y h=>h.elim fun Y h=>aB handedIn h.1
 |range=>obtain⟨⟨a,t,u,x,e,Y⟩,Y⟩:=h;exact aB handedIn e
 |set=>obtain⟨⟨a,o,e,Y⟩,Y⟩:=h;exact aB handedIn e
 |dict=>obtain⟨a,o,gt,e,Y⟩:=h;exact aB handedIn e
 |inst=>obtain⟨a,d,es,n,e,Y⟩:=h;exact aB handedIn e
 |fn=>obtain⟨⟨a,o,fd,e,Y⟩,Y⟩:=h;exact aB handedIn e
theorem xY(S:SR D F W env me st rv s.heap){C x d:Addr}{es:List DictEntry}{a:Str}(ok:r9 D.K C a)(h1:s.heap.get? x=some (instObj C d))(h2:s.heap.get? d=some (dictOf es m))
 (hl:getL a es=some (some v)) (hh:handedIn v=true) {Q:Value→Shared→Prop} (hq: ∀tk,Q v { s with toks:=tk }):wpAny (model D.prog D.w) A (getAttr (.ref x) a true) Q E s:=by
 obtain⟨at_,h3,h4⟩:=ok.at_
 exact get_value S.IJ ⟨h1,rfl,rfl,h2⟩ ok.ga (findObj_own ok.hd h3 h4 (by exact(lookIn_dict ..).trans hl)) hh (hq _)
theorem yt{o:Expr}(h:kN o=true)(a:Str)(m:Sem Value):attributeBase o a env m=m:=by
 induction o using Expr.casesOn<;>first|rfl|exact ew h
theorem pv{o:Expr}{a:Str}(hb:kN o=true)(h:wpAny (model D.prog D.w) A (eval o env) (fun v bk=>wpAny (model D.prog D.w) A (getAttr v a true) Q E bk) E s):
 wpAny (model D.prog D.w) A (eval (.Attribute o a pos) env) Q E s:=by
 refine ae (arm_eval_Attribute ..) (ae (yt hb ..) ?_)
 exact ak (wpAny_mono h (fun v bk aP=>ak (wpAny_standAt (ak (wpAny_holding (wpAny_mono aP (fun r d3 dy=>ak (wpAny_letTemporaryGo (av dy))) fun Y Y y=>y))))) fun Y Y y=>y)
theorem lY(hc:cy D n cx env)(S:SR D F W env me st rv s.heap){x:fG}(h:refKey cx st e=some x)(hv:rv x=some v)(hh:handedIn v=true)(hq: ∀tk,Q v { s with toks:=tk }):
 wpAny (model D.prog D.w) A (eval e env) Q E s:=by
 rcases iA h with⟨y,p,rfl,h⟩|⟨Y,h⟩
 .obtain⟨q,h⟩:=nZ h
  obtain rfl:=b8 h
  exact jw hc S q hv (hq _)
 .obtain⟨o,a,p,rfl,h⟩:=gV h
  obtain⟨y,p',rfl,h⟩:=eZ h
  obtain⟨q,h⟩:=nZ h
  obtain⟨C,e,h⟩:=Bh h
  obtain⟨iG,h⟩:=nZ h
  obtain rfl:=b8 h
  obtain⟨w,h1,i,d,h2,rfl⟩:=S.sl _ _ e
  obtain⟨h3,Y,Y,es,m,h4⟩:=S.me _ _ _ h2
  obtain⟨I6,m',h5,h6⟩:=S.Gu a v hv _ _ _ h2
  exact pv rfl (jw hc S q h1 (xY S (hc.attr C a iG) h3 h5 h6 hh hq))
theorem sF(h:gk v=some x): ∃t,v= .str x t:=by
 induction v using Value.casesOn with
 |str y t=>exact⟨t,b8 h▸rfl⟩
 |_=>exact nn h
theorem sv{x a:Str}{t:Tok}:Value.isStr (.str x t) a=(x==a):=rfl
theorem zY{a:Str}{ns:List Str}{es:List DictEntry}{u:MV}(hk:es.map (fun e=>gk e.key)=ns.map some)(hv:D.dm F ts (es.map (·.val)))(h:AJ ns ts a=some u): ∃v,getL a es=some (some v)∧D.VR F u v:=by
 induction ns generalizing ts es with
 |nil=>exact nn h
 |cons n ns ih=>
  induction ts using aO with
  |nil=>exact nn h
  |cons t ts=>
   induction es using aO with
   |nil=>exact nomatch hk
   |cons e es=>
    obtain⟨WK,YT⟩:=List.cons.inj hk
    obtain⟨v,lC,h1,h2,h3⟩:=hv.lh
    obtain⟨h4,rfl⟩:=List.cons.inj h1
    obtain⟨tk,tI⟩:=sF WK
    clear hk WK hv h1
    unfold getL
    by_cases q:n=a
    .have g:e.key.isStr a=true:=by rw[tI,sv];exact beq_iff_eq.mpr q
     rw[List.find?_cons_of_pos (p:=fun x:DictEntry=>x.key.isStr a) g]
     obtain rfl:=dZ (aF q) h
     exact⟨v,h4▸rfl,h2⟩
    .have g: ¬e.key.isStr a=true:=by rw[tI,sv];exact fun z=>q (eq_of_beq z)
     have r:e.refKey=false:=by unfold DictEntry.refKey;rw[tI]
     obtain⟨v,h5,h6⟩:=ih YT h3 ((az q).symm.trans h)
     refine⟨v,?_,h6⟩
     rw[List.find?_cons_of_neg (p:=fun x:DictEntry=>x.key.isStr a) g,bO,r,Bool.false_or]
     exact h5
theorem AU{F cJ:FH}(hl:dG F cJ){C:Addr}{ns:List Str}(h:D.VR F (.inst C ns ts) v):
 ∃a d es m,v= .ref a∧cJ a=some (instObj C d)∧cJ d=some (dictOf es m)∧es.map (fun e=>gk e.key)=ns.map some∧D.dm F ts (es.map (·.val)):=by
 obtain⟨vs,⟨a,d,es,m,e,h1,h2,h3,rfl⟩,hv⟩:=h.at hl
 exact⟨a,d,es,m,e,h1,h2,h3,hv⟩
theorem wB(hR:d4 D n R)(ha:ey A n)(hc:cy D n cx env)(S:SR D F W env me st rv s.heap){o:Expr}{a:Str}
 (h:(match refKey cx st (.Attribute o a pos)with
   |some x=>w9 st x k
   |none=>bif kN o then(R cx o st fun Y t st=>AR t fun C ns ts=>bif cx.attr C a then(AJ ns ts a).bind fun u=>k false u st else none)else none)=some out):wpAny (model D.prog D.w) A (eval (.Attribute o a pos) env) (bP D F W env me st rv s k out) E s:=by
 induction hx:refKey cx st (.Attribute o a pos)using ab with
 |some x=>
  rw[hx]at h
  obtain⟨F',v,t,bB,h1,h2,P,S',h⟩:=AX S h
  exact lY hc S hx h1 (qa (VR.at S'.fz h2)) fun tk=>bP.dD h (P.trans (dU.same fun Y Y q=>q)) S' h2
 |none=>
  rw[hx]at h
  obtain⟨hb,h⟩:=aJ h
  refine pv hb (wm (hR.aw h ha hc S) ?_)
  clear h hx
  rintro v bk ⟨bK,t,aR,aP,bX,bh,hv⟩
  obtain⟨C,ns,us,rfl,g⟩:=uY aP
  clear aP
  obtain⟨iG,g⟩:=aJ g
  obtain⟨u,hl,g⟩:=cL g
  obtain⟨x,d,es,m,rfl,h1,h2,h3,h4⟩:=AU bh.fz hv
  obtain⟨w,h5,h6⟩:=zY h3 h4 hl
  exact xY bh (hc.attr _ a iG) h1 h2 h5 (qa (VR.at bh.fz h6)) fun tk=>bP.dD g (bX.trans (dU.same fun Y Y q=>q)) bh h6
end
section
inductive EU(D:Wd)(F:FH)(W:Addr→Prop)(env:Env)(me:Me)(st:St)(rv:RV)(s:Shared)(k:MV→St→aH)(out:MV×Option MV)(v:Value)(s':Shared):Prop where
 |mk (F':FH) (t:MV) (bB:St) (h0:k t bB=some out) (h1:dU F st rv s F' bB s') (h2:SR D F' W env me bB rv s'.heap) (h3:D.f0 F' s'.heap.get? t v)
theorem oV{x:fG}(h:gM cx st e=some x):refKey cx st e=some x∧ ∃sl,st.get x=some sl∧sl.dX=true:=by
 obtain⟨y,q,h⟩:=cL h
 obtain⟨t,e',rfl⟩:=cu.mp h
 refine⟨q,?_⟩
 clear q h
 revert e'
 generalize st.get y=sl
 intro e'
 induction sl using ab with
 |none=>exact nn e'
 |some sl=>
  refine⟨sl,rfl,?_⟩
  induction sl using Slot.casesOn with
  |own=>rfl
  |cK=>rfl
  |ro=>rfl
  |_=>exact nn e'
theorem AZ(S:SR D F W env me st rv s.heap){x:fG}(h:m8 (st.get x)=some t): ∃v,rv x=some v∧D.f0 F s.heap.get? t v:=by
 induction q:st.get x using ab with
 |none=>rw[q]at h;exact nn h
 |some sl=>
  rw[q]at h
  obtain⟨v,h1,h2⟩:=S.sl _ _ q
  refine⟨v,h1,?_⟩
  clear q h1
  induction sl using Slot.casesOn with
  |aw=>exact b8 h▸VR.at S.fz h2
  |own=>exact b8 h▸h2.1
  |cK=>exact b8 h▸h2.1
  |ro=>exact b8 h▸h2.1
  |me=>exact nn h
theorem nV(hR:d4 D n R)(ha:ey A n)(hc:cy D n cx env)(S:SR D F W env me st rv s.heap){k:MV→St→aH}(h:peek (R cx) cx e st k=some out):
 wpAny (model D.prog D.w) A (eval e env) (EU D F W env me st rv s k out) E s:=by
 unfold peek at h
 induction hx:gM cx st e using ab with
 |some x=>
  rw[hx]at h
  obtain⟨t,e',h⟩:=cL h
  obtain⟨v,h1,h2⟩:=AZ S e'
  exact lY hc S (oV hx).1 h1 (qa h2) fun tk=>⟨F,t,st,h,dU.same fun Y Y q=>q,S,h2⟩
 |none=>
  rw[hx]at h
  refine wm (hR.aw h ha hc S) ?_
  rintro v s' ⟨F',t,bB,h1,P,S',hv⟩
  exact⟨F',t,bB,h1,P,S',VR.at S'.fz hv⟩
theorem k7{op:CmpOp}{r:Expr}(h:hU r=true):behindInMarks op r=false:=by
 induction r using Expr.casesOn<;>first|rfl|exact ew h
theorem yj(hR:d4 D n R)(ha:ey A n)(hc:cy D n cx env)(S:SR D F W env me st rv s.heap){l r:Expr}{op:CmpOp}{k:Bool→St→aH}
 (h:(R cx l st fun Y a st=>bif isIn op then(peek (R cx) cx r st fun b st=>eN op a b fun c=>k c st)else(R cx r st fun Y b st=>eN op a b fun c=>k c st))=some out) {Q:Value→Shared→Prop}
 (hq: ∀F' bB s' c,k c bB=some out→dU F st rv s F' bB s'→SR D F' W env me bB rv s'.heap→Q (.bool c) s'):
 wpAny (model D.prog D.w) A (eval l env) (fun va bk=>wpAny (model D.prog D.w) A (eval r env) (fun vb d3=>wpAny (model D.prog D.w) A (compareOp op va vb) Q E d3) E bk) E s:=by
 refine wm (hR.aw h ha hc S) ?_
 clear h
 rintro va bk ⟨bK,a,aR,aP,bX,bh,tv⟩
 have r:wpAny (model D.prog D.w) A (eval r env) (EU D bK W env me aR rv bk (fun b st=>eN op a b fun c=>k c st) out) E bk:=by
  have aP:(bif isIn op then _ else _)=some out:=aP
  generalize isIn op=q at aP
  induction q using ag with
  |true=>exact nV hR ha hc bh aP
  |false=>exact wm (hR.aw aP ha hc bh) (fun vb d3 ⟨fW,b,eD,dy,fC,eT,vk⟩=>⟨fW,b,eD,dy,fC,eT,VR.at eT.fz vk⟩)
 refine wm r ?_
 clear r aP
 rintro vb d3 ⟨fW,b,eD,dy,fC,eT,vk⟩
 refine wm (mT dy eT.fz (VR.mono fC.le tv) vk ha) ?_
 rintro v jJ ⟨c,hk,rfl,tk,rfl⟩
 exact hq fW eD _ c hk ((bX.trans fC).trans (dU.same fun Y Y q=>q)) eT
inductive Rv(R:Expr→St→KT→aH)(cx:Cx)(l:Expr)(oa:List CmpOp)(rs:List Expr)(st:St)(k:Bool→St→aH)(out:MV×Option MV):Prop where
 |mk (op:CmpOp) (e:Expr) (p:oa=[op]) (q:rs=[e]) (hn:hU e=true) (h:(R l st fun Y a st=>bif isIn op then(peek R cx e st fun b st=>eN op a b fun c=>k c st)else(R e st fun Y b st=>eN op a b fun c=>k c st))=some out)
inductive Ru(R:Expr→St→KT→aH)(cx:Cx)(l:Expr)(oa:List CmpOp)(rs:List Expr)(st:St)(k:Bool→St→aH)(out:MV×Option MV):Prop where
 |one (h:DF R cx l oa rs st k=some out)
 |two (op Bz:CmpOp) (e e':Expr) (p:oa=[op,Bz]) (q:rs=[e,e']) (hn:hU e'=true) (h:(R l st fun Y a st=>R e st fun Y b st=>eN op a b fun c=>bif c then(R e' st fun Y b' st=>eN Bz b b' fun c=>k c st)else k false st)=some out)
theorem yk{R:Expr→St→KT→aH}{l:Expr}{oa:List CmpOp}{rs:List Expr}{k:Bool→St→aH}(h:DF R cx l oa rs st k=some out):Rv R cx l oa rs st k out:=by
 obtain⟨op,r,p1,h⟩:=bL h
 obtain⟨p2,h⟩:=cm h
 obtain⟨e,r',p3,h⟩:=bL h
 obtain⟨p4,h⟩:=cm h
 obtain⟨hn,h⟩:=aJ h
 exact⟨op,e,p2▸p1,p4▸p3,hn,h⟩
theorem Gh{R:Expr→St→KT→aH}{l:Expr}{oa:List CmpOp}{rs:List Expr}{k:Bool→St→aH}(h:Hi R cx l oa rs st k=some out):Ru R cx l oa rs st k out:=by
 unfold Hi at h
 induction q:decide (oa.length=2)using ag with
 |false=>rw[q]at h;exact .one h
 |true=>
  rw[q]at h
  obtain⟨op,o1,p1,h⟩:=bL h
  obtain⟨Bz,o2,p2,h⟩:=bL h
  obtain⟨e,r1,p3,h⟩:=bL h
  obtain⟨e',r2,p4,h⟩:=bL h
  obtain⟨p5,h⟩:=cm h
  obtain⟨hn,h⟩:=aJ h
  have q:(op::Bz::o2).length=2:=p2▸p1▸aj q
  exact .two op Bz e e' (p1.trans (p2▸(bM.mp (Nat.succ.inj (Nat.succ.inj q))▸rfl))) (p3.trans (p4▸p5▸rfl)) hn h
theorem Af(hR:d4 D n R)(ha:ey A n)(hc:cy D n cx env)(S:SR D F W env me st rv s.heap){l:Expr}{oa:List CmpOp}{rs:List Expr}
 (h:DF (R cx) cx l oa rs st (fun b st=>k false (.bool b) st)=some out):wpAny (model D.prog D.w) A (eval (.Compare l oa rs pos) env) (bP D F W env me st rv s k out) E s:=by
 obtain⟨op,e,rfl,rfl,hn,g⟩:=yk h
 exact wpAny_Compare1 (yj hR ha hc S g fun F' bB s' c h1 P S'=>bP.dD h1 P S' (ru (D:=D) (F:=F'))) (k7 hn)
inductive j6(D:Wd)(F:FH)(W:Addr→Prop)(env:Env)(me:Me)(st:St)(rv:RV)(s:Shared)(k:Bool→St→aH)(out:MV×Option MV)(b:Bool)(s':Shared):Prop where
 |mk (F':FH) (bB:St) (h0:k b bB=some out) (h1:dU F st rv s F' bB s') (h2:SR D F' W env me bB rv s'.heap)
theorem BY{Ja:Sem Value}(h1: ∀x p,e≠ .UnaryOp .Not x p)(h2:e.ctorIdx≠0)(h3:e.ctorIdx≠5)(h4:e.ctorIdx≠15):
 isTrue e env Ja=(do let v ←Ja;standAt e.pos;holding [v] (truthy v)):=by
 induction e using Expr.casesOn with
 |UnaryOp op x p=>induction op using UnaryOp.casesOn with
  |Not=>exact absurd rfl (h1 _ _)
  |_=>rfl
 |BoolOp=>exact absurd rfl h2
 |IfExp=>exact absurd rfl h3
 |Compare=>exact absurd rfl h4
 |_=>rfl
theorem j6.later{bK:FH}{aR:St}{bk:Shared}{k:Bool→St→aH}(P:dU F st rv s bK aR bk){b:Bool}{s':Shared}(h:j6 D bK W env me aR rv bk k out b s'):j6 D F W env me st rv s k out b s':=by
 obtain⟨F',bB,h1,P',S'⟩:=h
 exact⟨F',bB,h1,P.trans P',S'⟩
theorem IF(ha:ey A n){T:Expr→St→(Bool→St→aH)→aH}(hT: ∀{F:FH}{st:St}{s:Shared}{e:Expr}{k:Bool→St→aH},T e st k=some out→SR D F W env me st rv s.heap→wpAny (model D.prog D.w) A (isTrue e env (eval e env)) (j6 D F W env me st rv s k out) E s)
 {op:BoolOp} {es:List Expr} {k:Bool→St→aH} (h:Hk T op es st k=some out) (S:SR D F W env me st rv s.heap):wpAny (model D.prog D.w) A (allTrue op es env) (j6 D F W env me st rv s k out) E s:=by
 induction es generalizing F st s with
 |nil=>
  induction op using BoolOp.casesOn with
  |And=>exact av (a:=true) ⟨F,st,h,dU.refl ..,S⟩
  |Or=>exact av (a:=false) ⟨F,st,h,dU.refl ..,S⟩
 |cons e es ih=>
  refine ak (wm (hT h S) ?_)
  clear h hT
  rintro b bk ⟨bK,aR,aP,bX,bh⟩
  induction op using BoolOp.casesOn with
  |And=>induction b using ag with
   |false=>exact av ⟨bK,aR,aP,bX,bh⟩
   |true=>exact wm (ih aP bh) (fun Y Y q=>q.later bX)
  |Or=>induction b using ag with
   |false=>exact wm (ih aP bh) (fun Y Y q=>q.later bX)
   |true=>exact av ⟨bK,aR,aP,bX,bh⟩
theorem IA(hR:d4 D n R)(hc:cy D n cx env)(ha:ey A n){l:Expr}{oa:List CmpOp}{rs:List Expr}{p:Pos}{k:Bool→St→aH}(h:Hi (R cx) cx l oa rs st k=some out)(S:SR D F W env me st rv s.heap):
 wpAny (model D.prog D.w) A (isTrue (.Compare l oa rs p) env (eval (.Compare l oa rs p) env)) (j6 D F W env me st rv s k out) E s:=by
 rcases Gh h with g'|⟨op,Bz,r,r',rfl,rfl,hn,g⟩
 .clear h;obtain⟨op,e,rfl,rfl,hn,g⟩:=yk g'
  clear g'
  exact wpAny_isTrue_Compare1 (yj hR ha hc S g fun F' bB s' c h1 P S'=>wpAny_truthy_bool ⟨F',bB,h1,P,S'⟩) (k7 hn)
 .clear h
  refine isTrue_chain (wm (hR.aw g ha hc S) ?_) (k7 hn)
  clear g hn
  rintro va bk ⟨bK,a,aR,aP,bX,bh,tv⟩
  show wpAny _ A (do
   let rv ←holding [va] (eval r env)
   standAt _
   let c ←holding [va,rv] (compareOp op va rv)
   release [va,rv] [c]
   if ←holding [c,rv] (truthy c)then testChain _ rv [Bz] [eval r' env]else pure false) _ E bk
  refine ak (wpAny_holding (wm (hR.aw aP ha hc bh) ?_))
  clear aP
  rintro vb d3 ⟨fW,b,eD,dy,fC,eT,vk⟩
  refine ak (wpAny_standAt (ak (wpAny_holding (wm (mT dy eT.fz (VR.mono fC.le tv) (VR.at eT.fz vk) ha) ?_))))
  clear dy tv
  rintro vc jJ ⟨c,hk,rfl,tk,rfl⟩
  have ke:dU F st rv s fW eD { d3 with toks:=tk }:=(bX.trans fC).trans (dU.same fun Y Y q=>q)
  clear bX fC
  refine ak (wpAny_release (ak (wpAny_holding (wpAny_truthy_bool ?_))))
  induction c using ag with
  |false=>exact av ⟨fW,eD,hk,ke,eT⟩
  |true=>
   show wpAny _ A (do
    let rv ←holding [vb] (eval r' env)
    standAt _
    let c ←operate [vb,rv] (compareOp Bz vb rv)
    holding [c] (truthy c)) _ E _
   refine ak (wpAny_holding (wm (hR.aw (s:={ d3 with toks:=tk }) hk ha hc eT) ?_))
   clear hk
   rintro ZQ vw ⟨Ho,b',AB,lK,q7,pQ,Oo⟩
   refine ak (wpAny_standAt (ak ?_))
   refine wpAny_operating (wm (mT lK pQ.fz (VR.mono q7.le vk) (VR.at pQ.fz Oo) ha) ?_)
   clear lK vk Oo
   rintro vc N2 ⟨c,M2,rfl,n9,rfl⟩
   exact wpAny_holding (wpAny_truthy_bool ⟨Ho,AB,M2,(ke.trans q7).trans (dU.same fun Y Y q=>q),pQ⟩)
theorem mK(hR:d4 D n R)(hc:cy D n cx env): ∀(m:Nat){A:Around}{F:FH}{W:Addr→Prop}{me:Me}{st:St}{rv:RV}{s:Shared}{E:Value→Shared→Prop}{e:Expr}{k:Bool→St→aH},ey A n→fH (R cx) cx m e st k=some out→SR D F W env me st rv s.heap→
 wpAny (model D.prog D.w) A (isTrue e env (eval e env)) (j6 D F W env me st rv s k out) E s:=by
 intro m
 induction m with
 |zero=>intro A F W me st rv s E e k ha h;exact nn h
 |succ m ih=>
  intro A F W me st rv s E e k ha h S
  rcases LP h with⟨x,p,rfl,h⟩|⟨h1,h⟩
  .refine wpAny_isTrue_Not (wm (ih ha h S) ?_)
   rintro b s' ⟨F',bB,h1,P,S'⟩
   exact⟨F',bB,h1,P,S'⟩
  .rcases zW h with⟨op,es,p,rfl,h⟩|⟨h2,h⟩
   .exact wpAny_isTrue_BoolOp (IF ha (ih ha) h S)
   .rcases yH h with⟨l,oa,rs,p,rfl,h⟩|⟨h4,h⟩
    .exact IA hR hc ha h S
    .have h:(bif decide (e.ctorIdx=5)then none else _)=some out:=h
     induction h3:decide (e.ctorIdx=5)using ag with
     |true=>rw[h3]at h;exact nn h
     |false=>
      rw[h3,bH]at h
      refine wpAny_isTrue_value (wm (nV hR ha hc S h) ?_) (BY h1 h2 (of_decide_eq_false h3) h4)
      clear h h1 h2 h3 h4
      rintro v bk ⟨bK,t,aR,aP,bX,bh,hv⟩
      obtain⟨b,e,aP⟩:=cL aP
      exact oZ e hv fun tk=>⟨bK,aR,aP,bX.trans (dU.same fun Y Y q=>q),bh⟩
end
section
theorem bP.later{bK:FH}{aR:St}{bk d3:Shared}(P:dU F st rv s bK aR bk)(h:bP D bK W env me aR rv bk k out v d3):bP D F W env me st rv s k out v d3:=by
 obtain⟨F',o,t,bB,h1,P',S',hr,hf⟩:=h
 exact⟨F',o,t,bB,h1,P.trans P',S',hr,fun e a q=>P.e7 (hf e a q)⟩
theorem Am(hR:d4 D n R)(ha:ey A n)(hc:cy D n cx env){op:BoolOp}{es:List Expr}{k:Bool→St→aH}(h:uy (R cx) op es st k=some out)(S:SR D F W env me st rv s.heap):
 wpAny (model D.prog D.w) A (boolOp pos op (evalEach es env)) (fun v s'=> ∃b,v= .bool b∧j6 D F W env me st rv s k out b s') E s:=by
 induction es generalizing F st s with
 |nil=>exact nn h
 |cons e es ih=>
  induction es using aO with
  |nil=>
   refine wm (hR.aw h ha hc S) ?_
   clear h ih
   rintro v bk ⟨bK,t,aR,aP,bX,bh,hv⟩
   obtain⟨b,rfl,aP⟩:=nQ aP
   exact⟨b,vY hv,bK,_,aP,bX,bh⟩
  |cons e2 es=>
   show wpAny _ A (do
    let v ←eval e env
    standAt pos
    let t ←holding [v] (truthy v)
    match op,t with
    | .And,false| .Or,true=>pure v
    |_,_=>boolOp pos op (evalEach (e2::es) env)) _ E s
   refine ak (wm (hR.aw h ha hc S) ?_)
   clear h
   rintro v bk ⟨bK,t,aR,aP,bX,bh,hv⟩
   obtain⟨b,rfl,aP⟩:=nQ aP
   obtain rfl:=vY hv
   clear hv
   refine ak (wpAny_standAt (ak (wpAny_holding (wpAny_truthy_bool ?_))))
   have on (aP:uy (R cx) op (e2::es) aR k=some out):wpAny (model D.prog D.w) A (boolOp pos op (evalEach (e2::es) env)) (fun v s'=> ∃b,v= .bool b∧j6 D F W env me st rv s k out b s') E bk:=
    wm (ih aP bh) (fun v s' q=>q.elim fun b q=>⟨b,q.1,q.2.later bX⟩)
   induction op using BoolOp.casesOn with
   |And=>induction b using ag with
    |false=>exact av ⟨_,rfl,bK,_,aP,bX,bh⟩
    |true=>exact on aP
   |Or=>induction b using ag with
    |false=>exact on aP
    |true=>exact av ⟨_,rfl,bK,_,aP,bX,bh⟩
theorem CL(hR:d4 D n R)(ha:ey A n)(hc:cy D n cx env)(S:SR D F W env me st rv s.heap){op:BoolOp}{es:List Expr}
 (h:uy (R cx) op es st (fun b st=>k false (.bool b) st)=some out):wpAny (model D.prog D.w) A (eval (.BoolOp op es pos) env) (bP D F W env me st rv s k out) E s:=by
 refine ae (arm_eval_BoolOp ..) ?_
 refine wm (Am hR ha hc h S) ?_
 rintro v s' ⟨b,rfl,F',bB,h1,P,S'⟩
 exact bP.dD h1 P S' (ru (D:=D) (F:=F'))
theorem ya(hR:d4 D n R)(ha:ey A n)(hc:cy D n cx env)(S:SR D F W env me st rv s.heap){t b o:Expr}
 (h:fH (R cx) cx m t st (fun c st=>bif c then R cx b st k else R cx o st k)=some out):wpAny (model D.prog D.w) A (eval (.IfExp t b o pos) env) (bP D F W env me st rv s k out) E s:=by
 refine wpAny_IfExp (wm (mK hR hc m ha h S) ?_)
 rintro c bk ⟨bK,aR,aP,bX,bh⟩
 induction c using ag with
 |true=>exact wm ((hR aP).2 ha hc bh) (fun v s' q=>q.later bX)
 |false=>exact wm ((hR aP).2 ha hc bh) (fun v s' q=>q.later bX)
inductive Zt(D:Wd)(F:FH)(W:Addr→Prop)(env:Env)(me:Me)(st:St)(rv:RV)(s:Shared)(k:Option MV→St→aH)(out:MV×Option MV)(v:Value)(s':Shared):Prop where
 |mk (F':FH) (t:Option MV) (bB:St) (h0:k t bB=some out) (h1:dU F st rv s F' bB s') (h2:SR D F' W env me bB rv s'.heap) (h3:uA D F' t v)
theorem sH(hR:d4 D n R)(ha:ey A n)(hc:cy D n cx env)(S:SR D F W env me st rv s.heap){e:Option Expr}{k:Option MV→St→aH}(h:zH (R cx) e st k=some out):
 wpAny (model D.prog D.w) A (evalPart e env) (Zt D F W env me st rv s k out) E s:=by
 induction e using ab with
 |none=>exact av ⟨F,none,st,h,dU.refl ..,S,rfl⟩
 |some e=>
  refine ae (evalPart_some ..) (wm (hR.aw h ha hc S) ?_)
  rintro v bk ⟨bK,t,aR,aP,bX,bh,hv⟩
  exact⟨bK,some t,aR,aP,bX,bh,hv⟩
theorem uA.mono{F F':FH}(le:dG F F'){t:Option MV}(h:uA D F t v):uA D F' t v:=by
 induction t using ab with
 |none=>exact h
 |some t=>exact VR.mono le h
theorem FW(hc:cy D n cx env)(S:SR D F W env me st rv s.heap){x:fG}(h:gM cx st e=some x): ∃v,rv x=some v∧ ∀{Q:Value→Shared→Prop},(∀tk,Q v { s with toks:=tk })→wpAny (model D.prog D.w) A (eval e env) Q E s:=by
 obtain⟨IZ,sl,mz,Ke⟩:=oV h
 obtain⟨a,q,_⟩:=S.held x _ mz Ke
 exact⟨_,q,fun hq=>lY hc S IZ q rfl hq⟩
theorem xT{fW:FH}{eD:St}{d3:Shared}{c i:MV}{v sl:Expr}{vc vi:Value}(jI:oU sl=false)(h:ea c i (fun t=>k false t eD)=some out)(P:dU F st rv s fW eD d3)(S:SR D fW W env me eD rv d3.heap)(NA:D.f0 fW d3.heap.get? c vc)(Kb:D.VR fW i vi):
 wpAny (model D.prog D.w) A (subscriptTail v sl vc vi) (bP D F W env me st rv s k out) E d3:=by
 obtain⟨hg,T,id,hT,hl⟩:=CB (E:=E) h NA Kb (A:=A)
 refine tail_any hT hl (wm hg ?_) (pz jI _ _)
 rintro w jJ ⟨t,tk,hk,hw,rfl⟩
 exact bP.dD hk (P.trans (dU.same fun Y Y q=>q)) S hw
theorem EC(hR:d4 D n R)(ha:ey A n)(hc:cy D n cx env)(S:SR D F W env me st rv s.heap){v sl:Expr}
 (h:D6 (R cx) cx v sl st k=some out):wpAny (model D.prog D.w) A (eval (.Subscript v sl pos) env) (bP D F W env me st rv s k out) E s:=by
 refine Subscript_ ?_
 rcases Cn h with⟨lo,hi,XM,p,rfl,h⟩|⟨jI,h⟩
 .induction XM using ab with
  |some _=>exact nn h
  |none=>
   refine wm (hR.aw h ha hc S) ?_
   clear h
   rintro vc bk ⟨bK,c,aR,aP,bX,bh,NA⟩
   refine wpAny_Slice (wm (sH hR ha hc bh aP) ?_)
   clear aP
   rintro vl d3 ⟨fW,l,eD,dy,fC,eT,Yk⟩
   refine wm (sH hR ha hc eT dy) ?_
   clear dy
   rintro vh jJ ⟨q8,u,lm,fu,ke,m6,Ym⟩
   exact ae (evalPart_none ..) (av (wm (yB fu m6 (VR.mono (fC.le.trans ke.le) NA) (Yk.mono ke.le) Ym) (fun w s' q=>oo.post ((bX.trans fC).trans ke) (fun Y Y=>rfl) q)))
 .have jI:oU sl=false:=cz jI
  induction hx:gM cx st v using ab with
  |some x=>
   rw[hx]at h
   obtain⟨vc,h1,go⟩:=FW hc S hx (A:=A) (E:=E)
   refine go fun tk=>?_
   refine wm (hR.aw (s:={ s with toks:=tk }) h ha hc S) ?_
   clear h go hx
   rintro vi bk ⟨bK,i,aR,aP,bX,bh,Kb⟩
   obtain⟨c,e,aP⟩:=cL aP
   obtain⟨ZP,h3,h4⟩:=AZ bh e
   obtain rfl:=dZ h1 h3
   exact xT jI aP ((dU.same fun Y Y q=>q).trans bX) bh h4 Kb
  |none=>
   rw[hx]at h
   refine wm (hR.aw h ha hc S) ?_
   clear h hx
   rintro vc bk ⟨bK,c,aR,aP,bX,bh,NA⟩
   refine wm (hR.aw aP ha hc bh) ?_
   clear aP
   rintro vi d3 ⟨fW,i,eD,dy,fC,eT,Kb⟩
   exact xT jI dy (bX.trans fC) eT (VR.at eT.fz (VR.mono fC.le NA)) Kb
end
section
theorem qW.other(x:qW D F W st rv me h t v)(hF:F a=none)(lw:v≠ .ref a):qW D (F.add a o) W st rv me h t v:=by
 obtain⟨⟨b,rfl,h1,h2⟩,iG,hb,hx⟩:=x
 exact⟨⟨b,rfl,(FH.to fun q:b=a=>lw (q▸rfl)).trans h1,h2⟩,iG.mono (FH.li hF) (dG.refl _),hb,hx⟩
theorem fT.other(hF:F a=none){as:List Arg}(x:fT D F W st rv me h as vs)(q:a∉bU as vs):fT D (F.add a o) W st rv me h as vs:=by
 induction x with
 |nil=>exact .nil
 | @cons b as v vs x _ ih=>
   induction b using Arg.casesOn with
   |kG y=>exact .cons x (ih q)
   |val w t=>
    induction w using ag with
    |false=>exact .cons (VR.mono (FH.li hF) x) (ih q)
    |true=>
     have x:qW D F W st rv me h t v:=x
     obtain⟨b,rfl,_⟩:=x.ref
     exact .cons (qW.other x hF fun e=>q (eM e▸ .head _)) (ih fun z=>q (.tail _ z))
inductive MO(D:Wd)(bj F:FH)(W:Addr→Prop)(env:Env)(me:Me)(b7 st:St)(rv:RV)(aZ s:Shared)(ts:List MV)(vs:List Value):Prop where
 |mk (F':FH) (h1:SR D F' W env me st rv s.heap) (h2:dU bj b7 rv aZ F' st s) (h3:dG F F') (h4:D.dm F' ts vs)
theorem yN{bj:FH}{b7:St}{aZ:Shared}{as:List Arg}(S:SR D F W env me st rv s.heap)(P:dU bj b7 rv aZ F st s)(x:fT D F W st rv me s.heap as vs)
 (hn: ∀a∈bU as vs,aZ.heap.get? a=none) (hd:(bU as vs).Nodup) (h:oq as=some ts):MO D bj F W env me b7 st rv aZ s ts vs:=by
 induction as generalizing vs ts F with
 |nil=>
  obtain rfl:vs=[]:=x.inv
  exact b8 h▸⟨F,S,P,dG.refl F,dm.nil⟩
 |cons a as ih=>
  obtain⟨v,vs,rfl,h1,h2⟩:=x.inv
  clear x
  induction a using Arg.casesOn with
  |kG=>exact nn h
  |val o t=>
   obtain⟨us,hu,rfl⟩:=cu.mp h
   clear h
   induction o using ag with
   |false=>
    obtain⟨F',S',P',le,hv⟩:=ih S P h2 hn hd hu
    exact⟨F',S',P',le,dm.cons (VR.mono le h1) hv⟩
   |true=>
    obtain⟨a,o,rfl,hF,ho,S',hv⟩:=qW.freeze S h1
    obtain⟨M6,M5⟩:=bC.mp hd
    obtain⟨F',BF,TK,le,gD⟩:=ih S' (P.add hF (hn a (.head _))) (fT.other hF h2 M6) (fun b q=>hn b (.tail _ q)) M5 hu
    exact⟨F',BF,TK,(FH.li hF).trans le,dm.cons (VR.mono le hv) gD⟩
theorem SR.Bw(S:SR D F W env me st rv s.heap)(hf:o.isFreed=false){t:Nat}:dU F st rv s (F.add s.heap.objs.size o) st { s with heap:=s.heap.push o,toks:=t }∧SR D (F.add s.heap.objs.size o) W env me st rv (s.heap.push o):=by
 have fr:=S.fresh (cE s.heap)
 refine⟨(dU.same (cO o)).add fr.1 (cE _),(S.ext (cO o)).grow (FH.li fr.1) (fun b ob e=>?_) fun b ob e=>?_⟩
 .rcases FH.iF e with q|⟨rfl,rfl⟩
  .exact cO o b ob (S.fz b ob q)
  .exact bt _ hf
 .rcases FH.iF e with q|⟨rfl,_⟩
  .exact .inl q
  .exact .inr fr.2
inductive ZB(D:Wd)(F:FH)(W:Addr→Prop)(env:Env)(me:Me)(st:St)(rv:RV)(s:Shared)(k:List MV→St→aH)(out:MV×Option MV)(vs:List Value)(s':Shared):Prop where
 |mk (F':FH) (ts:List MV) (bB:St) (h0:k ts bB=some out) (h1:dU F st rv s F' bB s') (h2:SR D F' W env me bB rv s'.heap) (h3:D.dm F' ts vs)
theorem ig(hR:d4 D n R)(ha:ey A n)(hc:cy D n cx env)(pos:Pos){es:List Expr}{k:List MV→St→aH}(h:(eH (R cx) cx [] es st fun as st=>(oq as).bind fun ts=>k ts st)=some out)(S:SR D F W env me st rv s.heap):
 wpAny (model D.prog D.w) A (spliced (backTo pos (starEach es env))) (ZB D F W env me st rv s k out) E s:=by
 refine wm (fR hR ha hc pos es [] h S) ?_
 rintro vs bk ⟨bK,as,aR,aP,bX,bh,hv,hn,hd⟩
 obtain⟨ts,e,aP⟩:=cL aP
 obtain⟨fW,eT,fC,_,gD⟩:=yN bh bX hv (fun a q=>(hn a q).1) hd e
 exact⟨fW,ts,aR,aP,fC,eT,gD⟩
theorem It(hR:d4 D n R)(ha:ey A n)(hc:cy D n cx env)(S:SR D F W env me st rv s.heap){es:List Expr}
 (h:(eH (R cx) cx [] es st fun as st=>(oq as).bind fun ts=>bif aQ ts.length then k true (.list ts) st else none)=some out):wpAny (model D.prog D.w) A (eval (.List es pos) env) (bP D F W env me st rv s k out) E s:=by
 refine List_ (wm (ig hR ha hc pos h S) ?_)
 rintro vs bk ⟨bK,ts,aR,aP,bX,bh,gD⟩
 obtain⟨hz,aP⟩:=aJ aP
 have hz:ts.length≤1000000:=aj hz
 refine wpAny_newList ?_ (af (c6 gD.length) (af hz (by decide)))
 exact oo.post bX (k':=fun o t=>k o t aR) (fun Y Y=>rfl) (mC (tk:=bk.toks) bh aP gD (cO _) (cE _) (bt _ rfl) (af hz (by decide)))
theorem Ga(hR:d4 D n R)(ha:ey A n)(hc:cy D n cx env)(S:SR D F W env me st rv s.heap){es:List Expr}{c:Nat}
 (h:(eH (R cx) cx [] es st fun as st=>(oq as).bind fun ts=>bif aQ ts.length then k false (.tup ts) st else none)=some out):wpAny (model D.prog D.w) A (eval (.Tuple es c pos) env) (bP D F W env me st rv s k out) E s:=by
 refine Tuple_ (wm (ig hR ha hc pos h S) ?_)
 rintro vs bk ⟨bK,ts,aR,aP,bX,bh,gD⟩
 obtain⟨hz,aP⟩:=aJ aP
 refine wpAny_newTuple ?_ (af (c6 gD.length) (af (aj hz) (by decide)))
 obtain⟨ke,m6⟩:=bh.Bw (o:={ cls:= .type "tuple",data:= .seq vs.toArray }) rfl (t:=bk.toks)
 exact bP.dD aP (bX.trans ke) m6 (dO.mpr ⟨vs,⟨_,0,rfl,FH.tq ..⟩,dm.mono ke.le gD⟩)
end
section
noncomputable def tL(F:FH)(W:Addr→Prop)(st:St)(rv:RV)(me:Me)(b:Addr):Prop:=F b=none∧ ¬W b∧ ¬dh st rv b∧ ∀i C d,me=some (i,C,d)→b≠i∧b≠d
theorem mem_lookup{α β:Type}[BEq α][LawfulBEq α]{x:α}{c:β}{l:List (α×β)}(h:l.lookup x=some c):(x,c)∈l:=by
 induction l with
 |nil=>exact nn h
 |cons p r ih=>
  rw[de]at h
  induction q:x==p.1 using ag with
  |true=>rw[q]at h;exact eq_of_beq q▸b8 h▸ .head _
  |false=>rw[q]at h;exact .tail _ (ih h)
theorem j7.keep{h h':Heap}(hx:j7 env h x v)(kl: ∀o,h.get? env.locals=some o→h'.get? env.locals=some o)(kc: ∀p∈env.cells,∀o,h.get? p.2=some o→h'.get? p.2=some o):j7 env h' x v:=by
 refine⟨fun e=>?_,fun e=>?_⟩
 .obtain⟨m,⟨o,es,ep,h1,r⟩,h2⟩:=hx.1 e
  exact⟨m,⟨o,es,ep,kl _ h1,r⟩,h2⟩
 .obtain⟨c,h1,o,h2,h3⟩:=hx.2 e
  exact⟨c,h1,o,kc (x,c) (mem_lookup h1) _ h2,h3⟩
theorem nu.move{h h':Heap}{F':FH}{s:Slot}(x:nu D F h me s v)(le:dG F F')(hk:s.dX=true→ ∀a o,v= .ref a→h.get? a=some o→h'.get? a=some o):nu D F' h' me s v:=by
 have other (hk: ∀a o,v= .ref a→h.get? a=some o→h'.get? a=some o) {t:MV} (q:D.f0 F h.get? t v∧j3 h v∧fS t=true):D.f0 F' h'.get? t v∧j3 h' v∧fS t=true:=
  ⟨q.1.box q.2.2 le hk,fun a e=>(q.2.1 a e).elim fun o w=>⟨o,hk a o e w.1,w.2⟩,q.2.2⟩
 induction s using Slot.casesOn with
 |aw t=>exact VR.mono le x
 |own t=>exact other (hk rfl) x
 |cK t=>exact other (hk rfl) x
 |ro t=>exact other (hk rfl) x
 |me C=>exact x
theorem SR.step{h h':Heap}{bB:St}(S:SR D F W env me st rv h){F':FH}(le:dG F F')(fz:dG F' h'.get?)(nw: ∀b o,F' b=some o→F b=some o∨tL F W st rv me b){X:Addr→Prop}
 (keep: ∀b o,h.get? b=some o→ ¬X b→ ¬tL F W st rv me b→h'.get? b=some o) (xl: ¬X env.locals) (xc: ∀p∈env.cells,¬X p.2) (al: ∀b,W b→ ∃o,h'.get? b=some o) (xm: ∀b,X b→ ∀i C d,me=some (i,C,d)→b≠i∧b≠d) (hk:bB.map (·.1)=st.map (·.1))
 (sl: ∀k s',bB.get k=some s'→(st.get k=some s'∧ ∀b,rv k=some (.ref b)→s'.dX=true→ ¬X b)∨ ∃s v,st.get k=some s∧s.gC=true∧rv k=some v∧nu D F' h' me s' v):SR D F' W env me bB rv h':=by
 have AH {b} (hb:F b=none) (nf: ¬tL F W st rv me b):F' b=none:=by
  induction e:F' b using ab with
  |none=>rfl
  |some o=>exact(nw b o e).elim (fU hb) fun q=>absurd q nf
 have kl: ∀o,h.get? env.locals=some o→h'.get? env.locals=some o:=fun o e=>keep _ o e xl fun f=>f.2.1 S.pw.1
 have kc: ∀p∈env.cells,∀o,h.get? p.2=some o→h'.get? p.2=some o:=fun p hp o e=>(S.pw.2 p hp).elim (fun w=>keep _ o e (xc p hp) fun f=>f.2.1 w) fun q=>q.elim fun ob q=>dZ (S.fz _ _ q) e▸fz _ _ (le _ _ q)
 have DV: ∀i C d o,me=some (i,C,d)→h.get? d=some o→h'.get? d=some o:=fun i C d o q e=>keep d o e (fun z=>(xm d z i C d q).2 rfl) fun f=>(f.2.2.2 i C d q).2 rfl
 have old {k s'} (e:bB.get k=some s'): ∃s,st.get k=some s∧(s'.dX=true→s.dX=true)∧(s'.gC=true→s.gC=true):=by
  rcases sl k s' e with q|⟨s,v,q,m,Y⟩
  .exact⟨s',q.1,id,id⟩
  .exact⟨s,q,fun Y=>Slot.dY m,fun Y=>m⟩
 refine⟨fz,S.base.trans le,fun b w=>AH (S.wf b w) fun f=>f.2.1 w,al,fun k s' e=>?_,fun k s' e hh=>?_,fun k k' s1 s2 b e1 e2 m1 m2=>?_,fun y v e=>(S.As y v e).keep kl kc,fun y v e i C d q=>?_,fun i C d q=>?_,
  ⟨S.pw.1,fun p hp=>(S.pw.2 p hp).imp id fun q=>q.imp fun o e=>le _ _ e⟩,⟨(S.ma.keys hk).1,fun i C d q=>?_⟩,S.mw,?_,fun p hp=>?_⟩
 .rcases sl k s' e with⟨e,q⟩|⟨s,v,Y,Y,q⟩
  .obtain⟨v,h2,h3⟩:=S.sl k s' e
   refine⟨v,h2,h3.move le fun hh a o z w=>?_⟩
   subst z
   exact keep a o w (q a h2 hh) fun f=>f.2.2.1 ⟨k,s',e,hh,h2⟩
  .exact⟨v,q⟩
 .obtain⟨s,e,g,Y⟩:=old e
  obtain⟨b,h2,h3,h4⟩:=S.held k s e (g hh)
  exact⟨b,h2,AH h3 fun f=>f.2.2.1 ⟨k,s,e,g hh,h2⟩,h4⟩
 .obtain⟨s1,e1,Y,g1⟩:=old e1
  obtain⟨s2,e2,g2,Y⟩:=old e2
  exact S.dist k k' s1 s2 b e1 e2 (g1 m1) (g2 m2)
 .obtain⟨es,m,h2,h3⟩:=S.Gu y v e i C d q
  exact⟨es,m,DV i C d _ q h2,h3⟩
 .obtain⟨h2,h3,h4,es,m,h5⟩:=S.me i C d q
  have ni: ¬tL F W st rv me i:=fun f=>(f.2.2.2 i C d q).1 rfl
  exact⟨keep _ _ h2 (fun z=>(xm i z i C d q).1 rfl) ni,AH h3 ni,AH h4 fun f=>(f.2.2.2 i C d q).2 rfl,es,m,DV i C d _ q h5⟩
 .obtain⟨es,m,h2,h3⟩:=(S.ma.keys hk).2 i C d q
  exact⟨es,m,DV i C d _ q h2,h3⟩
 .obtain⟨m,o,es,ep,h1,r⟩:=S.Bt
  exact⟨m,o,es,ep,kl _ h1,r⟩
 .obtain⟨v,o,h2,h3⟩:=S.tn p hp
  exact⟨v,o,kc p hp _ h2,h3⟩
theorem SR.MQ(S:SR D F W env me st rv h)(hF:F a=none)(hW: ¬W a): ∀p∈env.cells,p.2≠a:=fun p hp q=>(S.pw.2 p hp).elim (fun w=>hW (q▸w)) fun w=>w.elim fun o e=>fU hF (q▸e)
theorem SR.qo{h h':Heap}(S:SR D F W env me st rv h){x:fG}{sl:Slot}(mz:st.get x=some sl)(hm:sl.gC=true)(ha:rv x=some (.ref a)){F':FH}(le:dG F F')(fz:dG F' h'.get?)
 (nw: ∀b o,F' b=some o→F b=some o∨tL F W st rv me b) (keep: ∀b o,h.get? b=some o→b≠a→ ¬tL F W st rv me b→h'.get? b=some o)
 {t':MV} (iG:D.f0 F' h'.get? t' (.ref a)) (hb:j3 h' (.ref a)) (hx:fS t'=true):SR D F' W env me (st.put x (sl.with t')) rv h':=by
 obtain⟨a',h1,hF,hw⟩:=S.held x sl mz (Slot.dY hm)
 obtain rfl:=eM (dZ ha h1)
 refine S.step le fz nw (X:=fun b=>b=a) keep (fun q=>hw.1 (q▸S.pw.1)) (S.MQ hF hw.1) (fun b w=>(S.wx b w).elim fun o e=>⟨o,keep b o e (fun q=>hw.1 (q▸w)) fun f=>f.2.1 w⟩) (fun b q=>q▸hw.2) (St.f8 _ mz) fun k s' e=>?_
 rcases St.eG e with⟨rfl,rfl⟩|⟨q,e⟩
 .refine .inr ⟨sl,_,mz,hm,ha,?_⟩
  clear e mz h1
  induction sl using Slot.casesOn with
  |own=>exact⟨iG,hb,hx⟩
  |cK=>exact⟨iG,hb,hx⟩
  |_=>exact ew hm
 .exact .inl ⟨e,fun b z hh w=>q (S.dist x k sl s' a mz e hm hh ha (w▸z)).symm⟩
theorem SR.drop{h h':Heap}(S:SR D F W env me st rv h){F':FH}(le:dG F F')(fz:dG F' h'.get?)
 (nw: ∀b o,F' b=some o→F b=some o∨tL F W st rv me b) (keep: ∀b o,h.get? b=some o→ ¬tL F W st rv me b→h'.get? b=some o):SR D F' W env me st rv h':=
 S.step le fz nw (X:=fun Y=>False) (fun b o e Y=>keep b o e) id (fun Y Y=>id) (fun b w=>(S.wx b w).elim fun o e=>⟨o,keep b o e fun f=>f.2.1 w⟩) (fun Y=>False.elim) rfl fun Y Y e=> .inl ⟨e,fun Y Y Y=>id⟩
end
section
structure K7(D:Wd)(bj:FH)(b7:St)(aZ:Shared)(F:FH)(W:Addr→Prop)(env:Env)(me:Me)(st:St)(rv:RV)(s:Shared)(aY:List c8)(as:List Arg)(ts:List MV)(vs:List Value)(F':FH):Prop where
 S:SR D F' W env me st rv s.heap
 P:dU bj b7 rv aZ F' st s
 le:dG F F'
 IL: ∀b o,F' b=some o→F b=some o∨b∈bU as vs
 args:ef D F' s.heap aY ts vs
 own: ∀b∈cq aY vs,tL F' W st rv me b∧b∈bU as vs
 mu: ∀b∈bQ aY vs,b∈cq aY vs∨ ∃x sl,cU aY vs=some (.ref b)∧lW as=some x∧rv (.v x)=some (.ref b)∧st.get (.v x)=some sl∧sl.gC=true
 nd:(bQ aY vs).Nodup
 cK:cU aY vs=(lW as).bind fun x=>rv (.v x)
 VV: ∀x,lW as=some x→ ∃a sl,rv (.v x)=some (.ref a)∧st.get (.v x)=some sl∧sl.gC=true
theorem IG{l l':List Addr}(h:b∈adr v l)(k:b∈l→b∈l'):b∈adr v l':=by
 induction v using Value.casesOn with
 |ref a=>exact(aA.mp h).elim (fun q=>q▸ .head _) fun q=> .tail _ (k q)
 |_=>exact k h
theorem Bs{l:List Addr}(h:b∈l):b∈adr v l:=by
 induction v using Value.casesOn with
 |ref a=>exact .tail _ h
 |_=>exact h
theorem yF{aY:List c8}(h:b∈cq aY vs):b∈bQ aY vs:=by
 induction vs generalizing aY with
 |nil=>exact jZ h
 |cons v vs ih=>
  have h:b∈tK (b9 aY) v (cq aY.tail vs):=h
  have g:b∈cq aY.tail vs→b∈bQ aY.tail vs:=ih
  refine(?_:b∈oy (b9 aY) v (bQ aY.tail vs))
  clear ih
  generalize b9 aY=m at h
  induction m using c8.casesOn with
  |aw=>exact g h
  |own=>exact IG h g
  |lend=>exact Bs (g h)
noncomputable def uz(D:Wd)(W:Addr→Prop)(env:Env)(me:Me)(st:St)(rv:RV)(s:Shared)(bj:FH)(b7:St)(aZ:Shared)(as:List Arg):Prop:=
 ∀{aY:List c8}{vs:List Value}{ts:List MV}{F:FH},SR D F W env me st rv s.heap→dU bj b7 rv aZ F st s→fT D F W st rv me s.heap as vs→
  (∀a∈bU as vs,aZ.heap.get? a=none)→(bU as vs).Nodup→vW aY as=true→jf as≤1→oY st as=some ts→ ∃F',K7 D bj b7 aZ F W env me st rv s aY as ts vs F'
variable{bj:FH}{b7:St}{aZ:Shared}
theorem Fj:uz D W env me st rv s bj b7 aZ []:=by
 intro aY vs ts F S P x Y Y Y Y h
 obtain rfl:vs=[]:=x.inv
 exact b8 h▸⟨F,S,P,dG.refl F,fun Y Y e=> .inl e,.nil,fun Y=>jZ,fun Y=>jZ,List.nodup_nil,rfl,fun Y=>nn⟩
theorem HX{as:List Arg}(h:jf as≤0):lW as=none:=by
 induction as with
 |nil=>rfl
 |cons a as ih=>
  induction a using Arg.casesOn with
  |kG x=>exact nomatch h
  |val o t=>exact ih h
theorem Fk{y:Str}{as:List Arg}(ih:uz D W env me st rv s bj b7 aZ as):uz D W env me st rv s bj b7 aZ (.kG y::as):=by
 intro aY vs ts F S P x hn hd hf hl h
 obtain⟨v,vs,rfl,h1,h2⟩:=x.inv
 clear x
 obtain⟨hm,hf⟩:=au.mp hf
 have hm:b9 aY= .lend:=by
  clear ih hn hd hf hl h h1 h2 S P
  revert hm
  generalize b9 aY=m
  intro hm
  induction m using c8.casesOn with
  |lend=>rfl
  |_=>exact ew hm
 have hl:=bf hl
 obtain⟨t,e1,h⟩:=cL h
 obtain⟨us,e2,rfl⟩:=cu.mp h
 clear h
 obtain⟨F',Q⟩:=ih (F:=F) S P h2 hn hd hf (Nat.le_succ_of_le hl) e2
 clear ih h2 hn hd hf S P e2
 obtain⟨sl,q1,q2,q3⟩:=sp e1
 obtain⟨a,q4,q5,q6⟩:=Q.S.held (.v y) sl q1 (Slot.dY q2)
 obtain rfl:=dZ h1 q4
 obtain⟨w,r1,r2⟩:=Q.S.sl (.v y) sl q1
 obtain rfl:=dZ h1 r1
 clear r1 q4
 have N6:cU aY.tail vs=none:=Q.cK.trans (HX hl▸rfl)
 have SS: ∀b∈bQ aY.tail vs,b∈cq aY.tail vs:=fun b q=>(Q.mu b q).elim id fun q=>q.elim fun x q=>q.elim fun sl q=>fU N6 q.1
 have r3:rF D F' s.heap .lend t (.ref a):=by
  rw[q1]at q3
  clear e1 q1 SS N6
  induction sl using Slot.casesOn with
  |own=>exact b8 q3▸⟨r2.1,r2.2.1,r2.2.2,a,rfl,q5⟩
  |cK=>exact b8 q3▸⟨r2.1,r2.2.1,r2.2.2,a,rfl,q5⟩
  |_=>exact ew q2
 clear e1 q3 r2
 have eo:cq aY (.ref a::vs)=cq aY.tail vs:=aB (tK · _ _) hm
 have em:bQ aY (.ref a::vs)=a::bQ aY.tail vs:=aB (oy · _ _) hm
 have el:cU aY (.ref a::vs)=some (.ref a):=aB (GB · _ _) hm
 refine⟨F',Q.S,Q.P,Q.le,Q.IL,.cons (hm▸r3) Q.args,eo▸Q.own,?_,?_,el.trans h1.symm,fun x q=>b8 q▸⟨a,sl,h1,q1,q2⟩⟩
 .rw[em,eo,el]
  intro b q
  rcases aA.mp q with rfl|q
  .exact .inr ⟨y,sl,rfl,rfl,h1,q1,q2⟩
  .exact .inl (SS b q)
 .rw[em]
  exact bC.mpr ⟨fun q=>(Q.own a (SS a q)).1.2.2.1 ⟨.v y,sl,q1,Slot.dY q2,h1⟩,Q.nd⟩
theorem Fl{o:Bool}{as:List Arg}(S:SR D F W env me st rv s.heap)(P:dU bj b7 rv aZ F st s)(h1:hE D F W st rv me s.heap o t v)(h2:fT D F W st rv me s.heap as vs)(hn: ∀a∈bU (.val o t::as) (v::vs),aZ.heap.get? a=none)
 (hd:(bU (.val o t::as) (v::vs)).Nodup): ∃bK,(SR D bK W env me st rv s.heap∧dU bj b7 rv aZ bK st s∧dG F bK∧D.VR bK t v∧fT D bK W st rv me s.heap as vs∧(bU as vs).Nodup)∧(∀b ob,bK b=some ob→F b=some ob∨b∈bU (.val o t::as) (v::vs))∧ ∀b∈bU as vs,b∈bU (.val o t::as) (v::vs):=by
 induction o using ag with
 |false=>exact⟨F,⟨S,P,dG.refl F,h1,h2,hd⟩,fun Y Y e=> .inl e,fun Y q=>q⟩
 |true=>
  obtain⟨a,ob,rfl,hF,ho,S',hv⟩:=qW.freeze S h1
  obtain⟨M6,M5⟩:=bC.mp hd
  exact⟨F.add a ob,⟨S',P.add hF (hn a (.head _)),FH.li hF,hv,fT.other hF h2 M6,M5⟩,fun b Y e=>by
   rcases FH.iF e with q|⟨rfl,Y⟩
   .exact .inl q
   .exact .inr (.head _),fun b q=> .tail _ q⟩
theorem Fi{o:Bool}{as:List Arg}(ih:uz D W env me st rv s bj b7 aZ as):uz D W env me st rv s bj b7 aZ (.val o t::as):=by
 intro aY vs ts F S P x hn hd hf hl h
 obtain⟨v,vs,rfl,h1,h2⟩:=x.inv
 clear x
 obtain⟨us,e2,rfl⟩:=cu.mp h
 clear h
 obtain⟨NH,R4⟩:=au.mp hf
 clear hf
 induction hm:b9 aY using c8.casesOn with
 |lend=>rw[hm]at NH;exact ew NH
 |aw=>
  obtain⟨bK,⟨bh,bX,Qm,hv,gD,lF⟩,QP,sub⟩:=Fl S P h1 h2 hn hd
  obtain⟨F',Q⟩:=ih bh bX gD (fun a q=>hn a (sub a q)) lF R4 hl e2
  clear ih S P h1 h2 hn hd NH R4 hl e2 bh bX gD lF
  have eo:cq aY (v::vs)=cq aY.tail vs:=aB (tK · _ _) hm
  have em:bQ aY (v::vs)=bQ aY.tail vs:=aB (oy · _ _) hm
  have el:cU aY (v::vs)=cU aY.tail vs:=aB (GB · _ _) hm
  have hv:rF D F' s.heap .aw t v:=VR.mono Q.le hv
  refine⟨F',Q.S,Q.P,Qm.trans Q.le,fun b ob e=>(Q.IL b ob e).elim (QP b ob) fun q=> .inr (sub b q),.cons (hm▸hv) Q.args,?_,?_,em▸Q.nd,el.trans Q.cK,Q.VV⟩
  .rw[eo];exact fun b q=>⟨(Q.own b q).1,sub b (Q.own b q).2⟩
  .rw[em,eo,el];exact Q.mu
 |own=>
  rw[hm]at NH
  obtain rfl:o=true:=NH
  have h1:qW D F W st rv me s.heap t v:=h1
  obtain⟨⟨a,rfl,hF,hW,hH,oe⟩,iG,hb,hx⟩:=h1
  obtain⟨M6,M5⟩:=bC.mp hd
  obtain⟨F',Q⟩:=ih S P h2 (fun b q=>hn b (.tail _ q)) M5 R4 hl e2
  clear ih S P h2 hn hd R4 hl e2 M5
  have GK:F' a=none:=by
   induction e:F' a using ab with
   |none=>rfl
   |some ob=>exact(Q.IL a ob e).elim (fU hF) fun q=>absurd q M6
  have eo:cq aY (.ref a::vs)=a::cq aY.tail vs:=aB (tK · _ _) hm
  have em:bQ aY (.ref a::vs)=a::bQ aY.tail vs:=aB (oy · _ _) hm
  have el:cU aY (.ref a::vs)=cU aY.tail vs:=aB (GB · _ _) hm
  have hv:rF D F' s.heap .own t (.ref a):=⟨iG.mono Q.le (dG.refl _),hb,hx,a,rfl,GK⟩
  refine⟨F',Q.S,Q.P,Q.le,fun b ob e=>(Q.IL b ob e).imp id fun q=> .tail _ q,.cons (hm▸hv) Q.args,?_,?_,?_,el.trans Q.cK,Q.VV⟩
  .rw[eo]
   intro b q
   rcases aA.mp q with rfl|q
   .exact⟨⟨GK,hW,hH,oe⟩,.head _⟩
   .exact⟨(Q.own b q).1,.tail _ (Q.own b q).2⟩
  .rw[em,eo,el]
   intro b q
   rcases aA.mp q with rfl|q
   .exact .inl (.head _)
   .exact(Q.mu b q).imp (fun q=> .tail _ q) id
  .rw[em]
   refine bC.mpr ⟨fun q=>?_,Q.nd⟩
   rcases Q.mu a q with q|⟨x,sl,Y,Y,q2,q3,q4⟩
   .exact M6 (Q.own a q).2
   .exact hH ⟨.v x,sl,q3,Slot.dY q4,q2⟩
theorem Fm(as:List Arg):uz D W env me st rv s bj b7 aZ as:=by
 induction as with
 |nil=>exact Fj
 |cons a as ih=>
  induction a using Arg.casesOn with
  |kG _=>exact Fk ih
  |val _ _=>exact Fi ih
theorem uK{as:List Arg}{aY:List c8}:SR D F W env me st rv s.heap→dU bj b7 rv aZ F st s→fT D F W st rv me s.heap as vs→
 (∀a∈bU as vs,aZ.heap.get? a=none)→(bU as vs).Nodup→vW aY as=true→jf as≤1→oY st as=some ts→ ∃F',K7 D bj b7 aZ F W env me st rv s aY as ts vs F':=Fm as
end
section
theorem zM(sl:Slot)(t:MV):(sl.with t).gC=sl.gC∧(sl.with t).dX=sl.dX:=by induction sl using Slot.casesOn<;>exact⟨rfl,rfl⟩
theorem uD{x:fG}{sl:Slot}(h:st.get x=some sl){k:fG}{s':Slot}(e:(st.put x (sl.with t)).get k=some s'): ∃s,st.get k=some s∧s'.gC=s.gC∧s'.dX=s.dX:=by
 rcases St.eG e with⟨rfl,rfl⟩|q
 .exact⟨sl,h,zM sl t⟩
 .exact⟨s',q.2,rfl,rfl⟩
theorem A2{x:fG}{sl:Slot}(h:st.get x=some sl)(q:kg (st.put x (sl.with t)) rv b):kg st rv b:=by
 obtain⟨k,s',h1,h2,h3⟩:=q
 obtain⟨s,e,m,Y⟩:=uD h h1
 exact⟨k,s,e,m.symm.trans h2,h3⟩
theorem si{x:fG}{sl:Slot}(h:st.get x=some sl)(q:dh (st.put x (sl.with t)) rv b):dh st rv b:=by
 obtain⟨k,s',h1,h2,h3⟩:=q
 obtain⟨s,e,Y,m⟩:=uD h h1
 exact⟨k,s,e,m.symm.trans h2,h3⟩
theorem xG{x:fG}{sl:Slot}(h:st.get x=some sl):eY st (st.put x (sl.with t)):=by
 refine⟨fun k u q=>?_,fun k u q=>?_⟩
 .by_cases e:k=x
  .subst e
   obtain rfl:=dZ h q
   exact⟨t,St.Gv ..⟩
  .exact⟨u,(St.At e).trans q⟩
 .rcases St.eG q with⟨rfl,e⟩|e
  .clear q
   induction sl using Slot.casesOn with
   |cK=>exact⟨_,h⟩
   |_=>exact nomatch e
  .exact⟨u,e.2⟩
theorem H9{aY:List c8}(h:cU aY vs=some (.ref a)):a∈bQ aY vs:=by
 induction vs generalizing aY with
 |nil=>exact nn h
 |cons v vs ih=>
  have h:GB (b9 aY) v (cU aY.tail vs)=some (.ref a):=h
  refine(?_:a∈oy (b9 aY) v (bQ aY.tail vs))
  have g:cU aY.tail vs=some (.ref a)→a∈bQ aY.tail vs:=ih
  clear ih
  generalize b9 aY=m at h
  induction m using c8.casesOn with
  |aw=>exact g h
  |own=>exact Bs (g h)
  |lend=>exact b8 h▸ .head _
theorem DH.post{bj F':FH}{b7 bB:St}{aZ s':Shared}{aP:Heap}{own:Bool}{r:MV}(hk:k own r bB=some out)(P:dU bj b7 rv aZ F' bB s')(S:SR D F' W env me bB rv s'.heap)
 (hv:DH D F' aP s'.heap own r v) (hf: ∀a,aP.get? a=none→aZ.heap.get? a=none∧ ¬W a∧ ¬dh bB rv a∧ ∀i C d,me=some (i,C,d)→a≠i∧a≠d):bP D bj W env me b7 rv aZ k out v s':=by
 induction own using ag with
 |false=>exact bP.dD hk P S hv
 |true=>
  obtain⟨q1,q2,q3,a,rfl,q4,q5⟩:=hv
  obtain⟨w1,w2,w3,w4⟩:=hf a q4
  exact⟨F',true,r,bB,hk,P,S,⟨⟨a,rfl,q5,w2,w3,w4⟩,q1,q2,q3⟩,fun Y b e=>by obtain rfl:=eM e;exact w1⟩
theorem yl{bj:FH}{b7:St}{aZ:Shared}{c:ej}{as:List Arg}{ts VU:List MV}{vs No:List Value}{F':FH}(lR:cS D n v c)(ha:ey A n)
 (Q:K7 D bj b7 aZ F W env me st rv s ms as ts vs F') (hn: ∀a∈bU as vs,aZ.heap.get? a=none) (jQ:ef D F' s.heap c.aY VU No) (e1:bQ c.aY No=bQ ms vs) (e2:cq c.aY No=cq ms vs)
 (e3:cU c.aY No=cU ms vs) (kJ:c.run VU (Jz c.own (lW as) st k)=some out):
 wpAny (model D.prog D.w) A (call v No) (bP D bj W env me b7 rv aZ k out) E s:=by
 refine lR ha Q.S.base Q.S.fz jQ (e1▸Q.nd) kJ ?_
 clear kJ jQ lR
 intro NW h' n9 v' r o hk le fz new keep alive lb hv
 rw[e1]at keep
 rw[e2]at new
 rw[e3,Q.cK]at lb
 clear e1 e2 e3
 have sj: ∀b∈cq ms vs,aZ.heap.get? b=none:=fun b q=>hn b (Q.own b q).2
 clear hn
 have EP (bB) (a1: ∀b,kg bB rv b→kg st rv b) (a2: ∀b,dh bB rv b→dh st rv b) (a3:eY st bB) (a4:bB.map (·.1)=st.map (·.1)):dU bj b7 rv aZ NW bB { s with heap:=h',toks:=n9 }:=by
  obtain⟨aP,NZ,hs⟩:=Q.P.sh
  refine⟨⟨h',n9,hs▸rfl⟩,Q.P.le.trans le,fun b ob e=>?_,fun b ob e no=>?_,fun b q=>Q.P.own b (a1 b q),fun b q=>Q.P.held b (a2 b q),fun b q=>alive b (Q.P.alive b q),Q.P.cK.trans a3,a4.trans Q.P.keys⟩
  .rcases new b ob e with q|q|q
   .exact Q.P.new b ob q
   .exact .inr (.inl (Q.P.e7 q))
   .exact .inr (.inl (sj b q))
  .refine keep b ob (Q.P.keep b ob e no) fun q=>?_
   rcases Q.mu b q with q|⟨x,sl,Y,Y,q1,q2,q3⟩
   .exact Sn (e.symm.trans (sj b q))
   .exact no (Q.P.own b ⟨.v x,sl,q2,q3,q1⟩)
 clear sj alive
 have nw: ∀b ob,NW b=some ob→F' b=some ob∨tL F' W st rv me b:=fun b ob e=>by
  rcases new b ob e with q|q|q
  .exact .inl q
  .exact .inr (Q.S.fresh q)
  .exact .inr (Q.own b q).1
 clear new
 induction hx:lW as using ab with
 |some x=>
  rw[hx]at hk
  obtain⟨t,rfl,g⟩:=cL hk
  clear hk
  obtain⟨a,sl,BD,mz,YK⟩:=Q.VV x hx
  rw[hx,show(some x).bind (fun x=>rv (.v x))=some (.ref a)from BD]at lb
  obtain⟨q1,q2,q3,q4⟩:=lb
  have Dy:st.mr (.v x) t=st.put (.v x) (sl.with t):=by unfold St.mr;rw[mz]
  rw[Dy]at g
  refine DH.post g (EP _ (fun b q=>A2 mz q) (fun b q=>si mz q) (xG mz) (St.f8 _ mz)) (Q.S.qo mz YK BD le fz nw (fun b ob e ne nf=>keep b ob e fun q=>?_) q1 q2 q3) hv fun b e=>⟨Q.P.e7 e,(Q.S.fresh e).2.1,fun q=>(Q.S.fresh e).2.2.1 (si mz q),(Q.S.fresh e).2.2.2⟩
  rcases Q.mu b q with q|⟨y,wQ,Y,q5,q6,Y⟩
  .exact nf (Q.own b q).1
  .obtain rfl:=dZ hx q5
   exact ne (eM (dZ q6 BD))
 |none=>
  rw[hx]at hk
  induction o using ab with
  |some t=>exact nn hk
  |none=>
  refine DH.post hk (EP st (fun Y q=>q) (fun Y q=>q) (eY.refl st) rfl) (Q.S.drop le fz nw fun b ob e nf=>keep b ob e fun q=>?_) hv fun b e=>⟨Q.P.e7 e,(Q.S.fresh e).2.1,(Q.S.fresh e).2.2.1,(Q.S.fresh e).2.2.2⟩
  rcases Q.mu b q with q|⟨y,wQ,Y,q5,Y⟩
  .exact nf (Q.own b q).1
  .exact fU hx q5
end
section
theorem jU{r:List Expr}(h:er (e::r)=true):(∀x p,e≠ .Starred x p)∧er r=true:=by
 obtain⟨a,b⟩:=au.mp h
 exact⟨fun x p q=>by subst q;exact ew a,b⟩
theorem fe{M:Model}{f:Value}{Q:Args→Shared→Prop}(hs:er args=true)(h:wpAny M A (spliced (backTo pos (starEach args env))) (fun vs s'=>Q ⟨vs,[]⟩ s') E s):
 wpAny M A (evalArgs f true (backTo pos (starEach args env)) []) Q E s:=by
 induction args using aO with
 |nil=>exact ak (wm h (fun vs s' h'=>ak (av (wpAny_holding (ak (av (ak (av (av h')))))))))
 |cons e vz=>
  rw[ia (jU hs).1]at h ⊢
  exact evalArgs_plain h
theorem gq(hs:er args=true):(backTo pos (starEach args env)).any (·.1)=false:=by
 induction args with
 |nil=>rfl
 |cons e vz ih=>
  obtain⟨he,hs⟩:=jU hs
  rw[ia he]
  exact ih hs
theorem Cb{bK:FH}{aR:St}{bk:Shared}{c:ej}{as:List Arg}(lR:cS D n v c)(ha:ey A n)(bX:dU F st rv s bK aR bk)(bh:SR D bK W env me aR rv bk.heap)
 (hv:fT D bK W aR rv me bk.heap as vs) (hn: ∀a∈bU as vs,s.heap.get? a=none∧bk.heap.get? a≠none) (hd:(bU as vs).Nodup) (h:runC c [] as aR k=some out):
 wpAny (model D.prog D.w) A (call v vs) (bP D F W env me st rv s k out) E bk:=by
 obtain⟨hf,h⟩:=aJ h
 obtain⟨h1,h2⟩:=au.mp hf
 obtain⟨ts,e,h⟩:=cL h
 obtain⟨F',Q⟩:=uK bh bX hv (fun a q=>(hn a q).1) hd h1 (aj h2) e
 exact yl lR ha Q (fun a q=>(hn a q).1) Q.args rfl rfl rfl h
theorem yW(hR:d4 D n R)(ha:ey A n)(hc:cy D n cx env)(S:SR D F W env me st rv s.heap){p pos:Pos}{c:ej}(hl:cx.sc.names.lookup x=some .globalImplicit)(hf:cx.fn x=some c)
 (hs:er args=true) (h:eH (R cx) cx c.aY args st (fun as st=>runC c [] as st k)=some out):wpAny (model D.prog D.w) A (eval (.Call (.Name x p) args [] pos) env) (bP D F W env me st rv s k out) E s:=by
 obtain⟨v,h1,h2,h3⟩:=hc.fn x c hf
 refine wpAny_Call_NameR (Name_function_global hc.kf (hc.ng x hl) (loadGlobal_global (mg:=D.mg) ?_ (mg_of D.X D.g h1) ?_) (hc.nd x _ hl).1)
 .exact hc.gl▸D.g.keeps S.e9
 .refine callWith_of (P:=fun h=>D.K.In h) (by rw[gq hs];rfl) (keeps_K h2) (fe hs (wm (fR hR ha hc pos args c.aY h S) ?_))
  rintro vs bk ⟨bK,as,aR,aP,bX,bh,hv,hn,hd⟩
  exact⟨bh.IJ,Cb h3 ha bX bh hv hn hd aP⟩
theorem Gj(hR:d4 D n R)(hz:20≤n)(ha:ey A n)(hc:cy D n cx env)(S:SR D F W env me st rv s.heap){p pos:Pos}{g:Int→Int→Option Int}(hl:cx.sc.names.lookup x=some .local)
 (hx:st.get (.v x)=some (.aw (.fn g))) (hs:er args=true)
 (h:(eH (R cx) cx [] args st fun as st=>(oq as).bind fun ts=>aC ts fun a r=>aC r fun b r=>a0 r <| i2 a b fun a b=>(g a b).bind fun r=>k false (.int r) st)=some out):wpAny (model D.prog D.w) A (eval (.Call (.Name x p) args [] pos) env) (bP D F W env me st rv s k out) E s:=by
 obtain⟨v,h1,h2⟩:=S.sl _ _ hx
 obtain⟨Y,⟨⟨a,o,fd,rfl,ho,YZ⟩,Y7,Y⟩,Y⟩:=dO.mp h2
 refine wpAny_Call_NameR (jw hc S (by unfold jP;rw[hl]) h1 (callWith_function (o:=o) (fd:=fd) (fe hs (wm (ig hR ha hc pos h S) ?_))))
 clear h h1 h2 hx hl hs
 rintro vs bk ⟨bK,ts,aR,aP,bX,bh,gD⟩
 refine⟨⟨bh.fz _ _ (bX.le _ _ ho),YZ⟩,?_⟩
 obtain⟨a1,r1,rfl,g1⟩:=bL aP
 clear aP
 obtain⟨v1,lC,rfl,q1,q2⟩:=gD.lh
 clear gD
 obtain⟨a2,r2,rfl,g2⟩:=bL g1
 clear g1
 obtain⟨v2,ZC,rfl,q3,q4⟩:=q2.lh
 clear q2
 obtain⟨rfl,g1⟩:=cm g2
 clear g2
 obtain rfl:=q4.none
 refine kL g1 q1 q3 fun i j t1 t2 aP=>?_
 obtain⟨r,hg,aP⟩:=cL aP
 exact Y7 A bk i j r t1 t2 _ _ (ha.le hz) (fun a o e=>bh.fz _ _ (bX.le _ _ e)) hg fun h' n9 t hk=>bP.dD aP (bX.trans (dU.same hk)) (bh.ext hk) (iL (D:=D) (F:=bK))
end
section
theorem Cg(hs:er args=true):((backTo pos (starEach args env)).all (fun x=> !x.1))=true:=by
 induction args with
 |nil=>rfl
 |cons e vz ih=>
  obtain⟨he,hs⟩:=jU hs
  rw[ia he]
  exact ih hs
theorem yI(hs:er args=true)(hz:args.length<20):methodCallForm (args.length+([]:List Keyword).length) (backTo pos (starEach args env)) (backToKw pos (keywordEach [] env))=true:=by
 unfold methodCallForm
 rw[Cg hs]
 exact aW (bT hz (by decide:20≤30))
theorem mW{o:Expr}{m:Str}{lA pos:Pos}(hb:kN o=true)(iR:(lA.endLine==pos.line)=true)(hs:er args=true)(hz:args.length<20)
 (h:wpAny (model D.prog D.w) A (eval o env) (fun ov bk=> ∀pl,wpAny (model D.prog D.w) A (getMethod ov m pl) (fun p d3=>wpAny (model D.prog D.w) A (callWith pos p.1 p.2 (backTo pos (starEach args env)) []) Q E d3) E bk) E s):
 wpAny (model D.prog D.w) A (eval (.Call (.Attribute o m lA) args [] pos) env) Q E s:=by
 refine ae (arm_eval_Call ..) (ae (yt hb ..) ?_)
 refine ak (wm h (fun ov bk aP=>ak (wpAny_standAt ?_)))
 unfold methodCall calleeOf
 refine ae (yI hs hz) ?_
 have UI:methodCallPos true o env lA pos=pure pos:=by unfold methodCallPos;simp[iR]
 refine ak (wpAny_holding (wm (aP _) (fun p d3 dy=>?_)))
 exact ak (wpAny_of_eq UI dy)
theorem qb{m:Str}{es:List DictEntry}{ns:List Str}(h:es.map (fun e=>gk e.key)=ns.map some)(hm:m∉ns):getL m es=some none:=by
 induction es generalizing ns with
 |nil=>rfl
 |cons e es ih=>
  induction ns using aO with
  |nil=>exact nomatch h
  |cons x ns=>
   obtain⟨h1,h2⟩:=List.cons.inj h
   obtain⟨tk,tI⟩:=sF h1
   have g: ¬e.key.isStr m=true:=by rw[tI,sv];exact fun q=>hm (eq_of_beq q▸ .head _)
   have r:e.refKey=false:=by unfold DictEntry.refKey;rw[tI]
   have ih:=ih h2 fun q=>hm (.tail _ q)
   unfold getL at ih ⊢
   rw[List.find?_cons_of_neg (p:=fun x:DictEntry=>x.key.isStr m) g,bO,r,Bool.false_or]
   exact ih
theorem xO{C x d:Addr}{es:List DictEntry}{k:Nat}{m:Str}{c:ej}{pl:Sem Bool}{Q:Value×List Value→Shared→Prop}(hc:cy D n cx env)(X:D.K.In s.heap)(hm:cx.pA C m=some c)
 (h1:s.heap.get? x=some (instObj C d)) (h2:s.heap.get? d=some (dictOf es k)) (hl:getL m es=some none) (hq: ∀f,keepIn D.K (.ref f)=true→cS D n (.ref f) c→Q (.ref f,[.ref x]) s):
 wpAny (model D.prog D.w) A (getMethod (.ref x) m pl) Q E s:=by
 obtain⟨f,q1,q2,q3,q4,q5,q6⟩:=hc.pA C m c hm
 exact method_fn X (od:=some (dictOf es k)) ⟨h1,rfl,rfl,h2⟩ q4 q5 q1 (beq_iff_eq.mp q2) (aB (Option.map _) ((lookIn_dict ..).trans hl)) (hq f q3 q6)
theorem im(vs:List Value):bQ [] vs=[]:=by
 induction vs with
 |nil=>rfl
 |cons _ _ ih=>exact ih
theorem A4(vs:List Value):cq [] vs=[]:=by
 induction vs with
 |nil=>rfl
 |cons _ _ ih=>exact ih
theorem oS(vs:List Value):cU [] vs=none:=by
 induction vs with
 |nil=>rfl
 |cons _ _ ih=>exact ih
theorem yx{l ms:List c8}(h:vZ l=some ms):b9 l= .aw∧l.tail=ms:=by
 induction l using aO with
 |nil=>exact⟨rfl,b8 h⟩
 |cons m l=>
  induction m using c8.casesOn with
  |aw=>exact⟨rfl,b8 h⟩
  |_=>exact nn h
theorem E6{bK:FH}{aR:St}{bk:Shared}{v G3:Value}{BG:MV}{c:ej}{as:List Arg}(lR:cS D n v c)(ha:ey A n)(bX:dU F st rv s bK aR bk)(bh:SR D bK W env me aR rv bk.heap)
 (hv:fT D bK W aR rv me bk.heap as vs) (hn: ∀a∈bU as vs,s.heap.get? a=none∧bk.heap.get? a≠none) (hd:(bU as vs).Nodup) (hm:vZ c.aY=some ms) (h0:D.VR bK BG G3)
 (h:runC { c with aY:=ms } [BG] as aR k=some out):
 wpAny (model D.prog D.w) A (call v (G3::vs)) (bP D F W env me st rv s k out) E bk:=by
 obtain⟨hf,h⟩:=aJ h
 obtain⟨h1,h2⟩:=au.mp hf
 obtain⟨ts,e,h⟩:=cL h
 obtain⟨F',Q⟩:=uK bh bX hv (fun a q=>(hn a q).1) hd h1 (aj h2) e
 obtain⟨e4,rfl⟩:=yx hm
 have h0:rF D F' bk.heap .aw BG G3:=VR.mono Q.le h0
 exact yl lR ha Q (fun a q=>(hn a q).1) (VU:=BG::ts) (.cons (e4▸h0) Q.args) (aB (oy · _ _) e4) (aB (tK · _ _) e4) (aB (GB · _ _) e4) h
theorem CU(hR:d4 D n R)(ha:ey A n)(hc:cy D n cx env)(S:SR D F W env me st rv s.heap){o:Expr}{m:Str}{lA pos:Pos}(hb:kN o=true)(iR:(lA.endLine==pos.line)=true)
 (hs:er args=true) (hz:args.length<20)
 (h:(R cx o st fun Y t st=>ym (R cx) cx m args k t st)=some out):wpAny (model D.prog D.w) A (eval (.Call (.Attribute o m lA) args [] pos) env) (bP D F W env me st rv s k out) E s:=by
 refine mW hb iR hs hz (wm (hR.aw h ha hc S) ?_)
 clear h
 rintro v bk ⟨bK,t,aR,aP,bX,bh,hv⟩ pl
 obtain⟨C,ns,us,rfl,g⟩:=uY aP
 clear aP
 induction hm:decide (m∉ns)using ag with
 |false=>rw[hm]at g;exact nn g
 |true=>
  rw[hm]at g
  obtain⟨c,YN,g⟩:=cL g
  obtain⟨ms,I1,g⟩:=cL g
  obtain⟨x,d,es,kk,rfl,q1,q2,q3,q4⟩:=AU bh.fz hv
  refine xO hc bh.IJ YN q1 q2 (qb q3 (aj hm)) fun f R2 lR=>?_
  refine callWith_of (P:=fun h=>D.K.In h) (by rw[gq hs];rfl) (keeps_K R2) (fe hs (wm (fR hR ha hc pos args ms g bh) ?_))
  clear g
  rintro vs d3 ⟨fW,as,eD,dy,fC,eT,gD,hn,hd⟩
  exact⟨eT.IJ,E6 lR ha (bX.trans fC) eT gD (fun a q=>⟨bX.e7 (hn a q).1,(hn a q).2⟩) hd I1 (VR.mono fC.le hv) dy⟩
theorem xQ{q:List Str×List MV}(h:iB st=some q):d5 st=q.1:=by
 induction st generalizing q with
 |nil=>exact b8 h▸rfl
 |cons p r ih=>
  obtain⟨k,sl⟩:=p
  induction k using fG.casesOn with
  |v _=>exact ih (q:=q) h
  |a x=>
   obtain⟨t,_,h⟩:=cL h
   obtain⟨q,e,rfl⟩:=cu.mp h
   exact aB (x:: ·) (ih e)
theorem xP{cJ:FH}(hl: ∀k sl,st.get k=some sl→ ∃v,rv k=some v∧ ∀t,m8 (some sl)=some t→D.VR cJ t v){bB:St}{q:List Str×List MV}(hm: ∀k sl,(k,sl)∈bB→st.get k=some sl)(h:iB bB=some q)
 (e:vs.map some=(d5 bB).map (fun x=>rv (.a x))):D.dm cJ q.2 vs:=by
 induction bB generalizing q vs with
 |nil=>exact b8 h▸List.map_eq_nil_iff.mp e▸dm.nil
 |cons p r ih=>
  obtain⟨k,sl⟩:=p
  have M1: ∀k sl,(k,sl)∈r→st.get k=some sl:=fun k sl q=>hm k sl (.tail _ q)
  induction k using fG.casesOn with
  |v _=>exact ih (q:=q) M1 h e
  |a x=>
   obtain⟨t,e1,h⟩:=cL h
   obtain⟨q,e2,rfl⟩:=cu.mp h
   induction vs using aO with
   |nil=>exact nomatch e
   |cons v vs=>
    obtain⟨g1,g2⟩:=List.cons.inj e
    obtain⟨w,h1,h2⟩:=hl _ _ (hm _ _ (.head _))
    exact dm.cons (b8 (h1.symm.trans g1.symm)▸h2 t e1) (ih M1 e2 g2)
noncomputable def St.nd(st:St):Prop:=(st.map (·.1)).Nodup
theorem St.get_mem(hn:st.nd)(k:fG)(sl:Slot)(h:(k,sl)∈st):st.get k=some sl:=by
 induction st with
 |nil=>exact jZ h
 |cons p r ih=>
  obtain⟨YJ,YI⟩:=bC.mp hn
  rcases aA.mp h with rfl|h
  .exact aF rfl
  .exact(az fun e:k=p.1=>YJ (show p.1∈r.map (·.1)from e▸List.mem_map_of_mem (f:=(·.1)) h)).trans (ih YI h)
end
section
theorem SR.nd(S:SR D F W env me st rv s.heap):st.nd:=S.ma.1
theorem kn(x:D.dm F ts vs):ef D F h [] ts vs:=by
 induction x with
 |nil=>exact .nil
 |cons a _ ih=>exact .cons a ih
theorem Gm{F F':FH}(ha:isAtom t=true)(h:D.VR F t v):D.VR F' t v:=by
 obtain⟨vs,h,k⟩:=dO.mp h
 refine dO.mpr ⟨vs,?_⟩
 induction t using MV.casesOn with
 |none|bool|int|str=>exact⟨h,k.none▸dm.nil⟩
 |_=>exact ew ha
theorem Gl(ha:isAtom t=true)(hb:fS t=true){P:Prop}:P:=by
 induction t using MV.casesOn with
 |none|bool|int|str=>exact ew hb
 |_=>exact ew ha
theorem Ft(S:SR D F W env me st rv s.heap){k:fG}{sl:Slot}(e:st.get k=some sl): ∃v,rv k=some v∧ ∀t,m8 (some sl)=some t→D.VR s.heap.get? t v:=by
 obtain⟨v,q1,q2⟩:=S.sl k sl e
 refine⟨v,q1,fun t e'=>?_⟩
 clear q1 e
 induction sl using Slot.casesOn with
 |aw=>exact b8 e'▸VR.mono S.fz q2
 |own=>exact b8 e'▸dO.mpr (q2.1.mono S.fz (dG.refl _))
 |cK=>exact b8 e'▸dO.mpr (q2.1.mono S.fz (dG.refl _))
 |ro=>exact b8 e'▸dO.mpr (q2.1.mono S.fz (dG.refl _))
 |me=>exact nn e'
theorem IB(hR:d4 D n R)(ha:ey A n)(hc:cy D n cx env)(S:SR D F W env me st rv s.heap){y:Str}{p:Pos}{C:Addr}{m:Str}{lA pos:Pos}(iR:(lA.endLine==pos.line)=true)
 (hs:er args=true) (hz:args.length<20) (hy:st.get (.v y)=some (.me C)) (hv:jP cx y=true) (R1:m∉d5 st)
 (h:EN (R cx) cx C m args st k=some out):wpAny (model D.prog D.w) A (eval (.Call (.Attribute (.Name y p) m lA) args [] pos) env) (bP D F W env me st rv s k out) E s:=by
 obtain⟨c,hm,h⟩:=cL h
 obtain⟨v,h1,i,d,oe,rfl⟩:=S.sl _ _ hy
 obtain⟨hi,Y,Y,Y⟩:=S.me _ _ _ oe
 obtain⟨es,kk,hd,qD,xk⟩:=S.ma.2 _ _ _ oe
 refine mW rfl iR hs hz (jw hc S hv h1 fun pl=>?_)
 refine xO hc S.IJ hm hi hd (qb qD R1) fun f R2 lR=>?_
 refine callWith_of (P:=fun h=>D.K.In h) (by rw[gq hs];rfl) (keeps_K R2) (fe hs (wm (ig hR ha hc pos h S) ?_))
 clear h h1 hi hd qD xk R2 hy hv R1 iR hs
 rintro vs bk ⟨bK,ts,aR,aP,bX,bh,gD⟩
 refine⟨bh.IJ,?_⟩
 obtain⟨q,e2,aP⟩:=cL aP
 obtain⟨I1,aP⟩:=cm aP
 obtain⟨JG,Y⟩:=bh.me _ _ _ oe
 obtain⟨JT,Qo,rO,xV,xU⟩:=bh.ma.2 _ _ _ oe
 have JH:D.VR bk.heap.get? (.inst C q.1 q.2) (.ref i):=dO.mpr ⟨JT.map (·.val),⟨i,d,JT,Qo,rfl,JG,rO,xQ e2▸xV,rfl⟩,xP (fun k sl=>Ft bh) (St.get_mem bh.nd) e2 (List.map_map.trans xU)⟩
 have jQ:D.dm bk.heap.get? (.inst C q.1 q.2::ts) (.ref i::vs):=dm.cons JH (dm.mono bh.fz gD)
 clear JH JG rO xV xU e2 gD
 refine lR (vs:= .ref i::vs) ha bh.e9 (dG.refl _) (I1▸kn jQ) (I1▸im (.ref i::vs)▸List.nodup_nil) aP ?_
 clear aP lR jQ
 intro F' h' n9 v' r T4 hk le fz new keep alive lb RX
 induction T4 using ab with
 |some t=>exact nn hk
 |none=>
  obtain⟨iG,aP⟩:=aJ hk
  rw[I1,im]at keep
  have kp: ∀b o,bk.heap.get? b=some o→h'.get? b=some o:=fun b o e=>keep b o e jZ
  have UF:D.VR F' r v':=by
   clear hk aP
   revert RX
   generalize c.own=ow
   intro RX
   induction ow using ag with
   |false=>exact RX
   |true=>exact Gl iG RX.2.2.1
  exact bP.dD aP (bX.trans (dU.same kp)) (bh.ext kp) (Gm iG UF)
end
section
noncomputable abbrev lN(D:Wd)(F cJ:FH):List MV→List Value→Prop:=vH (D.f0 F cJ)
theorem IE{F cJ:FH}(hl:dG F cJ)(x:D.dm F ts vs):lN D F cJ ts vs:=by
 induction x with
 |nil=>exact .nil
 |cons a _ ih=>exact .cons (VR.at hl a) ih
theorem jr{f:Str}{x:String}(h:pE f x=true):f=Str.ofString x:=aj h
theorem kR{cJ:FH}{i:Int}(h:D.f0 F cJ (.int i) v): ∃t,v= .int i t:=by obtain⟨vs,h,Y⟩:=h;exact h.1
theorem Go{cJ:FH}{b:Bool}(h:D.f0 F cJ (.bool b) v):v= .bool b:=by obtain⟨vs,h,Y⟩:=h;exact h.1
theorem ET{cJ:FH}(h:D.f0 F cJ (.tup ts) v): ∃a n vs,v= .ref a∧cJ a=some { cls:= .type "tuple",data:= .seq vs.toArray n }∧D.dm F ts vs:=by
 obtain⟨vs,⟨a,n,e,ho⟩,hv⟩:=h;exact⟨a,n,vs,e,ho,hv⟩
theorem Gn{cJ:FH}{a b c:Int}(h:D.f0 F cJ (.range a b c) v): ∃x t u w,v= .ref x∧cJ x=some { cls:= .type "range",dict:=none,data:= .fields #[.int a t,.int b u,.int c w],slots:= #[]}∧(eu a&&eu b)=true:=by
 obtain⟨vs,⟨⟨x,t,u,w,e,ho⟩,hr,Y⟩,Y⟩:=h;exact⟨x,t,u,w,e,ho,hr⟩
theorem Fw(S:SR D F W env me st rv s.heap){a b c:Int}{t u x:Tok}{tk:Nat}(hr:(eu a&&eu b)=true):
 ∃F',dU F st rv s F' st { s with heap:=s.heap.push { cls:= .type "range",data:= .fields #[.int a t,.int b u,.int c x]},toks:=tk }∧
  SR D F' W env me st rv (s.heap.push { cls:= .type "range",data:= .fields #[.int a t,.int b u,.int c x]})∧D.VR F' (.range a b c) (.ref s.heap.objs.size):=by
 obtain⟨P,S'⟩:=S.Bw (o:={ cls:= .type "range",data:= .fields #[.int a t,.int b u,.int c x]}) rfl (t:=tk)
 exact⟨_,P,S',dO.mpr ⟨[],⟨⟨_,t,u,x,rfl,FH.tq ..⟩,hr,rfl⟩,dm.nil⟩⟩
inductive vq(D:Wd)(F:FH)(W:Addr→Prop)(env:Env)(me:Me)(st:St)(rv:RV)(s:Shared)(k:Bool→MV→aH)(out:MV×Option MV)(v:Value)(s':Shared):Prop where
 |mk (F':FH) (o:Bool) (t:MV) (h0:k o t=some out) (h1:dU F st rv s F' st s') (h2:SR D F' W env me st rv s'.heap) (h3:hE D F' W st rv me s'.heap o t v) (h4:(o=true→ ∀a,v= .ref a→s.heap.get? a=none))
theorem oo.bi{k:Bool→MV→aH}{s':Shared}(h:oo D F W env me st rv s k out v s'):vq D F W env me st rv s k out v s':=
 by obtain⟨o,t,a,b,c,d,e⟩:=h;exact⟨F,o,t,a,b,c,d,e⟩
theorem sA{k:Bool→MV→aH}(S:SR D F W env me st rv s.heap){a b c:Int}{t u x:Tok}{tk:Nat}(h:k false (.range a b c)=some out)(hr:(eu a&&eu b)=true):
 vq D F W env me st rv s k out (.ref s.heap.objs.size) { s with heap:=s.heap.push { cls:= .type "range",data:= .fields #[.int a t,.int b u,.int c x]},toks:=tk }:=by
 obtain⟨F',P,S',hv⟩:=Fw (t:=t) (u:=u) (x:=x) (tk:=tk) S hr
 exact⟨F',false,_,h,P,S',hv,fun e=>by exact ew e⟩
theorem Eh{a:Int}(h:eu a=true): -(2 ^ 62)≤a∧a<2 ^ 62:=by
 obtain⟨p,q⟩:=au.mp h
 exact⟨aj p,aj q⟩
theorem nv(a b:Int):Builtin.Range.rangeSize a b (-1)=if a>b then a-b else 0:=by
 unfold Builtin.Range.rangeSize
 refine(az (by decide)).trans ?_
 simp only[Int.neg_neg,Int.ediv_one]
 split<;>lia
theorem B5{a b:Int}(ha: -(2 ^ 62)≤a)(B':a<2 ^ 62)(hb: -(2 ^ 62)≤b)(GI:b<2 ^ 62):Builtin.Range.small a b (-1)=true:=by
 unfold Builtin.Range.small
 refine ae (nv ..) ?_
 simp only[show ¬((-1:Int)>0) by decide,if_false,Builtin.Range.rangeFitsLong,aU,Bool.or_eq_true,a9,beq_iff_eq]
 refine⟨⟨⟨⟨⟨?_,?_⟩,?_,?_⟩,?_,?_⟩,?_⟩,?_⟩<;>(try split)<;>lia
theorem z6{f:Nat→Int}(h:vs.length=n)(hv: ∀j v,vs[j]? =some v→ ∃t,v=Value.int (f j) t):D.dm F ((List.range n).map fun i=>MV.int (f i)) vs:=by
 induction vs generalizing n f with
 |nil=>exact h▸dm.nil
 |cons v vs ih=>
  subst h
  rw[bw,List.range_succ_eq_map,bv,List.map_map]
  obtain⟨t,rfl⟩:=hv 0 v rfl
  exact dm.cons (iL (D:=D)) (ih (f:=fun i=>f (i+1)) rfl fun j w e=>hv (j+1) w e)
theorem o8{lo hi c:Int}(h:zx lo hi c=some ts)(hr:(eu lo&&eu hi)=true)(hz:ts.length≤2000000):
 Builtin.Range.small lo hi c=true∧(Builtin.Range.rangeSize lo hi c=(ts.length:Int))∧ts=(List.range ts.length).map (fun i:Nat=>MV.int (lo+i*c))∧(c=1∨c= -1):=by
 obtain⟨q1,q2⟩:=au.mp hr
 obtain⟨h1,h2⟩:=Eh q1
 obtain⟨h3,h4⟩:=Eh q2
 clear hr q1 q2
 unfold zx at h
 by_cases hc:c=1
 .subst hc
  obtain rfl:=dZ (aF rfl) h
  clear h
  rw[ai,aG]
  refine⟨small_one h1 h2 h3 h4,?_,List.map_congr_left fun a Y=>by rw[Int.mul_one],.inl rfl⟩
  refine(rangeSize_one ..).trans ?_
  split
  .exact V8 (Int.le_of_lt ‹_›)
  .exact(aB Nat.cast (Int.toNat_of_nonpos (Int.sub_nonpos_of_le (Int.not_lt.mp ‹_›)))).symm
 .rw[az hc]at h
  by_cases hc:c= -1
  .subst hc
   obtain rfl:=dZ (aF rfl) h
   clear h
   rw[ai,aG]
   refine⟨B5 h1 h2 h3 h4,?_,List.map_congr_left fun a Y=>by rw[Int.mul_neg,Int.mul_one];rfl,.inr rfl⟩
   refine(nv ..).trans ?_
   split
   .exact V8 (Int.le_of_lt ‹_›)
   .exact(aB Nat.cast (Int.toNat_of_nonpos (Int.sub_nonpos_of_le (Int.not_lt.mp ‹_›)))).symm
  .exact fU (az hc) h
end
section
theorem fQ:(2000001:Nat)≤sizeLine:=by decide
theorem z5(ha:ey A n)(S:SR D F W env me st rv s.heap){k:Bool→MV→aH}{c:MV}(hi:d7 c=some ts)(hz:ts.length≤1000000)(h:k true (.list ts)=some out)(hv:D.f0 F s.heap.get? c v):
 wpAny (model D.prog D.w) A (call (.type "list") [v]) (vq D F W env me st rv s k out) E s:=by
 have seq: ∀{a:Addr}{T:String}{m:Nat}{vs:List Value},T="list"∨T="tuple"→s.heap.get? a=some { cls:= .type T,dict:=none,data:= .seq vs.toArray m,slots:= #[]}→D.dm F ts vs→wpAny (model D.prog D.w) A (call (.type "list") [.ref a]) (vq D F W env me st rv s k out) E s:=by
  intro a T m vs hT ho gD
  have hl:vs.length=ts.length:=gD.length
  refine call_list_seq a hT ho rfl rfl (fun h' c' hk hn=>oo.bi ?_) (by have:=fQ;simp;lia)
  exact mC (tk:=s.toks) S h gD hk (cE _) hn (by exact af ‹_› (aa rfl))
 induction c using MV.casesOn with
 |list us=>
  clear hz h;obtain rfl:=b8 hi
  obtain⟨a,m,vs,rfl,ho,gD⟩:=gf hv
  exact seq (.inl rfl) ho gD.1
 |tup us=>
  clear hz h;obtain rfl:=b8 hi
  obtain⟨a,m,vs,rfl,ho,gD⟩:=ET hv
  exact seq (.inr rfl) ho gD
 |range lo hh st=>
  obtain⟨x,t,u,y,rfl,ho,hr⟩:=Gn hv
  obtain⟨h1,h2,h3,h4⟩:=o8 hi hr (by exact af ‹_› (aa rfl))
  refine call_list_range ha.hh ho h1 h2 (by exact af ‹_› (aa rfl)) fun h' tk OR c' hk hn wV=>oo.bi ?_
  refine mC (vs:=OR.toList) S h (?_:D.dm F ts OR.toList) hk (cE _) (by simpa using hn) (by exact af ‹_› (aa rfl))
  rw[h3]
  refine z6 (f:=fun i=>lo+i*st) (by simpa using wV.1) fun j w e=>wV.2 j w (by simpa using e)
 |_=>exact nn hi
theorem boot_abs:bootBuiltins "abs"=some (.builtin "abs"):=by decide+kernel
theorem pp:bootBuiltins "sorted"=some (.builtin "sorted"):=by decide+kernel
theorem wg(ha:ey A n)(S:SR D F W env me st rv s.heap){k:Bool→MV→aH}(hz:is.length≤8)(h:k true (.list ((sortI is).map .int))=some out)(hv:D.f0 F s.heap.get? (.set is) v):
 wpAny (model D.prog D.w) A (call (.builtin "sorted") [v]) (vq D F W env me st rv s k out) E s:=by
 obtain⟨vs,⟨⟨a,o,rfl,ho,hs⟩,Y⟩,Y⟩:=hv
 refine wC ha.hh ho hs fun h' tk D' out e hI hD hn hk=>oo.bi ?_
 have hl:out.toList.length=(sortI is).length:=hI.length
 have WI:(sortI is).length=is.length:=(sortI_perm is).length_eq
 refine mC (vs:=out.toList) S h ?_ hk hn (by simpa using hD) (by simp;lia)
 clear h hD hn hk hl WI hz ho hs
 revert hI
 generalize out.toList=l
 generalize sortI is=js
 intro hI
 induction hI with
 |nil=>exact dm.nil
 |cons _ _ _ ih=>exact dm.cons (iL (D:=D)) ih
theorem lN.inv{F cJ:FH}(x:lN D F cJ (t::ts) vs): ∃v lC,vs=v::lC∧D.f0 F cJ t v∧lN D F cJ ts lC:=by
 cases x with
 |cons a b=>exact⟨_,_,rfl,a,b⟩
theorem lN.empty{F cJ:FH}(x:lN D F cJ [] vs):vs=[]:=by cases x;rfl
@[elab_as_elim] theorem ul{F cJ:FH}{K:MV→aH}{Q:List Value→Prop}(h:(aC ts fun a r=>a0 r (K a))=some out)(hv:lN D F cJ ts vs)(k: ∀a v,K a=some out→D.f0 F cJ a v→Q [v]):Q vs:=by
  obtain⟨a,r,rfl,h⟩:=bL h
  obtain⟨rfl,g⟩:=cm h
  obtain⟨v,lC,rfl,h1,h2⟩:=hv.inv
  obtain rfl:=h2.empty
  exact k a v g h1
variable{k:Bool→MV→aH}
theorem Ct(ha:ey A n)(S:SR D F W env me st rv s.heap)(h:Oh ts k=some out)(hv:lN D F s.heap.get? ts vs):
 wpAny (model D.prog D.w) A (call (.builtin "len") vs) (vq D F W env me st rv s k out) E s:=by
 refine ul h hv fun a v h h1=>?_
 clear hv
 induction a using MV.casesOn with
 |list us=>
  obtain⟨a,m,ws,rfl,ho,Di,hz⟩:=gf h1
  have hl:ws.length=us.length:=Di.length
  refine call_len_list (dj ho) (show(ws.length:Int)<2 ^ 63 by lia) (oo.bi (eV S ?_))
  rw[show ws.toArray.size=us.length from hl]
  exact h
 |tup us=>
  obtain⟨a,m,ws,rfl,ho,Di⟩:=ET h1
  have hl:ws.length=us.length:=Di.length
  obtain⟨hz,h⟩:=aJ h
  refine P.len_tuple ho (show ¬((ws.length:Int)≥2 ^ 63) by have:=aj hz;lia) (oo.bi (eV S ?_))
  rw[show ws.toArray.size=us.length from hl]
  exact h
 |_=>exact nn h
theorem Cy(ha:ey A n)(S:SR D F W env me st rv s.heap)(h:Ol ts k=some out)(hv:lN D F s.heap.get? ts vs):
 wpAny (model D.prog D.w) A (call (.type "int") vs) (vq D F W env me st rv s k out) E s:=by
 refine ul h hv fun a v h h1=>?_
 clear hv
 induction a using MV.casesOn with
 |int i=>
  obtain⟨t,rfl⟩:=kR h1
  exact call_int_int (oo.bi (eV (tk:=s.toks) S h))
 |bool b=>
  obtain rfl:=Go h1
  refine call_int_bool (oo.bi ?_)
  induction b using ag<;>exact eV S h
 |_=>exact nn h
theorem C7(ha:ey A n)(S:SR D F W env me st rv s.heap)(h:OS ts k=some out)(hv:lN D F s.heap.get? ts vs):
 wpAny (model D.prog D.w) A (call (.builtin "abs") vs) (vq D F W env me st rv s k out) E s:=by
 refine ul h hv fun a v h h1=>?_
 obtain⟨i,rfl,g⟩:=dE h
 obtain⟨t,rfl⟩:=kR h1
 exact call_abs_int fun u tk=>oo.bi (ae (by split<;>first|exact Xo ‹_›|exact(Int.natAbs_of_nonneg (Int.not_lt.mp ‹_›)).symm:(if i<0 then -i else i)=(i.natAbs:Int)) (eV S g))
theorem B2(ha:ey A n)(S:SR D F W env me st rv s.heap)(h:sumK ts k=some out)(hv:lN D F s.heap.get? ts vs):
 wpAny (model D.prog D.w) A (call (.builtin "sum") vs) (vq D F W env me st rv s k out) E s:=by
 refine ul h hv fun a v h h1=>?_
 clear hv
 obtain⟨us,rfl,g⟩:=ju h
 clear h
 obtain⟨is,e,h⟩:=cL g
 clear g
 obtain⟨a,m,ws,rfl,ho,Di,hz⟩:=gf h1
 clear h1
 have hi:=Di.ints e
 obtain⟨xs,hx⟩:=hi.allInts.items
 refine sum_intListG ha.hh (xs:=xs) (hx▸dj ho) fun h' tk t' hk=>oo.bi ?_
 have e2:preSum (numAt xs) xs.size=is.sum:=by
  exact(preSum_eq ..).trans (ae (List.take_of_length_le (by simp)) (ft hi.numsOf (ft (nums_intItems ..) (ft hx rfl))))
 exact ae e2 ⟨false,_,h,dU.same hk,S.ext hk,iL (D:=D) (F:=F),ew⟩
theorem Cq(ha:ey A n)(S:SR D F W env me st rv s.heap)(h:N8 ts k=some out)(hv:lN D F s.heap.get? ts vs):
 wpAny (model D.prog D.w) A (call (.builtin "min") vs) (vq D F W env me st rv s k out) E s:=by
 obtain⟨a,r,rfl,g⟩:=bL h
 clear h
 obtain⟨v,lC,rfl,h1,h2⟩:=hv.inv
 clear hv
 obtain⟨b,r,rfl,h⟩:=bL g
 clear g
 obtain⟨v2,XD,rfl,h3,h4⟩:=h2.inv
 clear h2
 obtain⟨rfl,g⟩:=cm h
 clear h
 obtain rfl:=h4.empty
 obtain⟨i,j,rfl,rfl,h⟩:=zD g
 clear g
 obtain⟨t,rfl⟩:=kR h1
 obtain⟨u,rfl⟩:=kR h3
 clear h1 h3
 refine min_two_ints ha.hh fun h' tk hk=>oo.bi ?_
 by_cases hc:j<i
 .rw[aW hc]at h
  exact ae (aF hc) ⟨false,_,h,dU.same hk,S.ext hk,iL (D:=D) (F:=F),ew⟩
 .rw[cz hc]at h
  exact ae (az hc) ⟨false,_,h,dU.same hk,S.ext hk,iL (D:=D) (F:=F),ew⟩
theorem yD(ha:ey A n)(S:SR D F W env me st rv s.heap)(h:Ei ts k=some out)(hv:lN D F s.heap.get? ts vs):
 wpAny (model D.prog D.w) A (call (.type "range") vs) (vq D F W env me st rv s k out) E s:=by
 obtain⟨a,r,rfl,g⟩:=bL h
 clear h
 obtain⟨i,rfl,h⟩:=dE g
 clear g
 obtain⟨v,lC,rfl,h1,h2⟩:=hv.inv
 clear hv
 obtain⟨t,rfl⟩:=kR h1
 clear h1
 induction r using aO with
 |nil=>
  obtain⟨hr,h⟩:=aJ h
  obtain rfl:=h2.empty
  exact call_range_1 (sA S h (by rw[hr];rfl))
 |cons b r=>
  obtain⟨j,rfl,g⟩:=dE h
  clear h
  obtain⟨v2,XD,rfl,h3,h4⟩:=h2.inv
  clear h2
  obtain⟨u,rfl⟩:=kR h3
  clear h3
  induction r using aO with
  |nil=>
   obtain⟨hr,h⟩:=aJ g
   obtain rfl:=h4.empty
   exact call_range_2 (sA S h hr)
  |cons c r=>
   obtain⟨rfl,h⟩:=cm g
   clear g
   obtain⟨c,rfl,g⟩:=dE h
   clear h
   obtain⟨hr,h⟩:=aJ g
   obtain⟨Yx,e⟩:=au.mp hr
   obtain rfl:=aj e
   obtain⟨v3,ZO,rfl,h5,h6⟩:=h4.inv
   obtain rfl:=h6.empty
   obtain⟨x,rfl⟩:=kR h5
   exact call_range_3 (by decide) (sA S h Yx) (.inl (PyProof.noPylong_of_log2 (by decide+kernel)))
theorem zZ(ha:ey A n)(S:SR D F W env me st rv s.heap)(h:Jx ts k=some out)(hv:lN D F s.heap.get? ts vs):
 wpAny (model D.prog D.w) A (call (.type "list") vs) (vq D F W env me st rv s k out) E s:=by
 refine ul h hv fun a v h h1=>?_
 obtain⟨us,e,g⟩:=cL h
 obtain⟨hz,g⟩:=aJ g
 exact z5 ha S e (aj hz) g h1
theorem zS(ha:ey A n)(S:SR D F W env me st rv s.heap)(h:a0 ts (k true (.set []))=some out)(hv:lN D F s.heap.get? ts vs):
 wpAny (model D.prog D.w) A (call (.type "set") vs) (vq D F W env me st rv s k out) E s:=by
 obtain⟨rfl,g⟩:=cm h
 clear h
 obtain rfl:=hv.empty
 refine yU (oo.bi ?_)
 have fr:=cE s.heap
 exact⟨true,_,g,dU.same (cO _),S.ext (cO _),S.Sx fr (bt _ rfl) rfl rfl ⟨[],⟨⟨_,_,rfl,bt _ rfl,qI⟩,rfl⟩,dm.nil⟩,fun Y b e=>eM e▸fr⟩
theorem tQ(ha:ey A n)(S:SR D F W env me st rv s.heap)(h:sortedK ts k=some out)(hv:lN D F s.heap.get? ts vs):
 wpAny (model D.prog D.w) A (call (.builtin "sorted") vs) (vq D F W env me st rv s k out) E s:=by
 refine ul h hv fun a v h h1=>?_
 clear hv
 induction a using MV.casesOn with
 |set is=>
  obtain⟨hz,h⟩:=aJ h
  exact wg ha S (aj hz) h h1
 |_=>exact nn h
theorem oB{f:Str}{x:String}{a b:aH}(h:(bif pE f x then a else b)=some out):(f=Str.ofString x∧a=some out)∨b=some out:=by
 induction q:pE f x using ag with
 |true=>rw[q]at h;exact .inl ⟨jr q,h⟩
 |false=>rw[q]at h;exact .inr h
theorem qO(ha:ey A n)(S:SR D F W env me st rv s.heap){f:Str}(h:ux f ts k=some out)(hv:lN D F s.heap.get? ts vs){fv:Value}(hb:bootBuiltins f=some fv):
 wpAny (model D.prog D.w) A (call fv vs) (vq D F W env me st rv s k out) E s:=by
 rcases oB h with⟨q,h⟩|h
 .exact dZ boot_len (q▸hb)▸Ct ha S h hv
 rcases oB h with⟨q,h⟩|h
 .exact dZ PyProof.Rows.boot_int (q▸hb)▸Cy ha S h hv
 rcases oB h with⟨q,h⟩|h
 .exact dZ boot_abs (q▸hb)▸C7 ha S h hv
 rcases oB h with⟨q,h⟩|h
 .exact dZ PyProof.Rows.boot_sum (q▸hb)▸B2 ha S h hv
 rcases oB h with⟨q,h⟩|h
 .exact dZ PyProof.Rows.boot_min (q▸hb)▸Cq ha S h hv
 rcases oB h with⟨q,h⟩|h
 .exact dZ PyProof.Rows.boot_range (q▸hb)▸yD ha S h hv
 rcases oB h with⟨q,h⟩|h
 .exact dZ PyProof.Rows.boot_list (q▸hb)▸zZ ha S h hv
 rcases oB h with⟨q,h⟩|h
 .exact dZ PyProof.Rows.boot_set (q▸hb)▸zS ha S h hv
 rcases oB h with⟨q,h⟩|h
 .exact dZ pp (q▸hb)▸tQ ha S h hv
 exact nn h
end
section
theorem vq.post{bK:FH}{aR:St}{bk d3:Shared}{k':Bool→MV→aH}(P:dU F st rv s bK aR bk)(hk: ∀o t,k' o t=k o t aR)(h:vq D bK W env me aR rv bk k' out v d3):bP D F W env me st rv s k out v d3:=by
 obtain⟨F',o,t,h1,P',S',hr,hf⟩:=h
 exact⟨F',o,t,aR,(hk o t).symm.trans h1,P.trans P',S',hr,fun e a q=>P.e7 (hf e a q)⟩
theorem Al(h:x∈c9):(∃id,bootBuiltins x=some (.builtin id))∨ ∃T,bootBuiltins x=some (.type T):=by
 simp only[c9,aA,cH,or_false]at h
 rcases h with rfl|rfl|rfl|rfl|rfl|rfl|rfl|rfl|rfl
 .exact .inl ⟨_,boot_len⟩
 .exact .inr ⟨_,PyProof.Rows.boot_int⟩
 .exact .inl ⟨_,boot_abs⟩
 .exact .inl ⟨_,PyProof.Rows.boot_sum⟩
 .exact .inl ⟨_,PyProof.Rows.boot_min⟩
 .exact .inr ⟨_,PyProof.Rows.boot_range⟩
 .exact .inr ⟨_,PyProof.Rows.boot_list⟩
 .exact .inr ⟨_,PyProof.Rows.boot_set⟩
 .exact .inl ⟨_,pp⟩
theorem HZ(h:x∈c9):x≠"__name__":=by
 simp only[c9,aA,cH,or_false]at h
 rcases h with rfl|rfl|rfl|rfl|rfl|rfl|rfl|rfl|rfl<;>decide
theorem o7(hc:cy D n cx env)(S:SR D F W env me st rv s.heap)(hl:cx.sc.names.lookup x=some .globalImplicit)(hx:x∈c9){fv:Value}(hb:bootBuiltins x=some fv){p:Pos}(hq:Q fv s):
 wpAny (model D.prog D.w) A (eval (.Name x p) env) Q E s:=by
 have hm:D.mg x=none:=mg_none_of D.X D.g (hc.bi x (.tail _ hx))
 refine Name_function_global hc.kf (hc.ng x hl) (loadGlobal_builtin (mg:=D.mg) (mb:=D.mb) ?_ hm ?_ ((D.builtins x (HZ hx)).trans hb) hq) (hc.nd x _ hl).1
 .exact hc.gl▸D.g.keeps S.e9
 .exact hc.bu▸D.b.keeps S.e9
theorem j9{M:Model}{fv:Value}(hf:(∃id,fv= .builtin id)∨ ∃T,fv= .type T)(hs:er args=true)
 (h:wpAny M A (spliced (backTo pos (starEach args env))) (fun vs s'=>wpAny M A (call fv vs) Q E s') E s):wpAny M A (callWith pos fv [] (backTo pos (starEach args env)) []) Q E s:=by
 rcases hf with⟨id,rfl⟩|⟨T,rfl⟩
 .exact callWith_builtin (gq hs) (fe hs h)
 .exact PyProof.Rows.callWith_type (gq hs) (fe hs h)
theorem u6(h:x∈c9): ∃fv,bootBuiltins x=some fv∧((∃id,fv= .builtin id)∨ ∃T,fv= .type T):=by
 rcases Al h with⟨id,e⟩|⟨T,e⟩
 .exact⟨_,e,.inl ⟨id,rfl⟩⟩
 .exact⟨_,e,.inr ⟨T,rfl⟩⟩
theorem ud(hR:d4 D n R)(ha:ey A n)(hc:cy D n cx env)(S:SR D F W env me st rv s.heap){p pos:Pos}(hl:cx.sc.names.lookup x=some .globalImplicit)(hx:x∈c9)
 (hs:er [e]=true) (h:peek (R cx) cx e st (fun t st=>ux x [t] fun o t=>k o t st)=some out):wpAny (model D.prog D.w) A (eval (.Call (.Name x p) [e] [] pos) env) (bP D F W env me st rv s k out) E s:=by
 obtain⟨fv,hb,hf⟩:=u6 hx
 refine wpAny_Call_NameR (o7 hc S hl hx hb (j9 hf hs ?_))
 rw[ia (jU hs).1]
 refine spliced_cons (wm (nV hR ha hc S h) ?_)
 rintro v bk ⟨bK,t,aR,aP,bX,bh,hv⟩
 refine spliced_nil ?_
 exact wm (qO ha bh aP (.cons hv .nil) hb) (fun w s' q=>vq.post bX (fun Y Y=>rfl) q)
theorem uc(hR:d4 D n R)(ha:ey A n)(hc:cy D n cx env)(S:SR D F W env me st rv s.heap){p pos:Pos}(hl:cx.sc.names.lookup x=some .globalImplicit)(hx:x∈c9)
 (hs:er args=true) (h:(eH (R cx) cx [] args st fun as st=>(oq as).bind fun ts=>ux x ts fun o t=>k o t st)=some out):wpAny (model D.prog D.w) A (eval (.Call (.Name x p) args [] pos) env) (bP D F W env me st rv s k out) E s:=by
 obtain⟨fv,hb,hf⟩:=u6 hx
 refine wpAny_Call_NameR (o7 hc S hl hx hb (j9 hf hs (wm (ig hR ha hc pos h S) ?_)))
 rintro vs bk ⟨bK,ts,aR,aP,bX,bh,gD⟩
 exact wm (qO ha bh aP (IE bh.fz gD) hb) (fun w s' q=>vq.post bX (fun Y Y=>rfl) q)
noncomputable def DQ(m:Str):String:=bif pE m "append" then "list.append" else bif pE m "pop" then "list.pop" else bif pE m "extend" then "list.extend" else "set.add"
theorem Ik{c:MV}{m:Str}{pl:Sem Bool}{Q:Value×List Value→Shared→Prop}(iG:D.f0 F s.heap.get? c (.ref a))(hb:j3 s.heap (.ref a))(hm:AI m c=true)(hq:Q (.builtin (DQ m),[.ref a]) s):
 wpAny (model D.prog D.w) A (getMethod (.ref a) m pl) Q E s:=by
 induction c using MV.casesOn with
 |list ts=>
  obtain⟨b,k,vs,e,ho,gD,hz⟩:=gf iG
  obtain rfl:=eM e
  have hT:s.TypeIs (.ref a) "list":=⟨_,ho,rfl⟩
  simp only[AI,Bool.or_eq_true]at hm
  rcases hm with q|q|q
  .obtain rfl:=jr q
   exact getMethod_builtin hT PySem.F.plainAttrs_list PySem.F.slot_list_append PySem.F.type_list_append hb hq
  .obtain rfl:=jr q
   exact getMethod_builtin hT PySem.F.plainAttrs_list PySem.F.slot_list_pop PySem.F.type_list_pop hb hq
  .obtain rfl:=jr q
   exact getMethod_builtin hT PySem.F.plainAttrs_list PySem.F.slot_list_extend PySem.F.type_list_extend hb hq
 |set is=>
  obtain⟨vs,⟨⟨b,o,e,ho,hs,Y⟩,Y⟩,Y⟩:=iG
  obtain rfl:=eM e
  have hT:s.TypeIs (.ref a) "set":=⟨_,ho,(hs D.prog D.w).1.1⟩
  obtain rfl:=jr hm
  exact getMethod_builtin hT PySem.F.plainAttrs_set PySem.F.slot_set_add PySem.F.type_set_add hb hq
 |_=>exact ew hm
noncomputable def K8(D:Wd)(F:FH)(s:Shared)(a:Addr)(k:MV→MV→aH)(out:MV×Option MV)(Q:Value→Shared→Prop):Prop:=
 ∀h' tk v r c' o,k r c'=some out→D.VR F r v→D.f0 F h'.get? c' (.ref a)→fS c'=true→(∀b o,b≠a→s.heap.get? b=some o→h'.get? b=some o)→h'.get? a=some o→o.dict=none→Q v { s with heap:=h',toks:=tk }
theorem K8.list{k:MV→MV→aH}(hq:K8 D F s a k out Q){ws:List Value}{kk:Nat}(ho:s.heap.get? a=some (listOf ws.toArray kk)){f:Array Value→Array Value}{zs:List Value}{xs:List MV}{r:MV}(e:f ws.toArray=zs.toArray)(hx:D.dm F xs zs)(hz:xs.length≤2000000)
 (hk:k r (.list xs)=some out) (hr:D.VR F r v):Q v { s with heap:=s.heap.update a (Obj.mapSeq f)}:=by
 obtain⟨q,hg⟩: ∃q,(s.heap.update a (Obj.mapSeq f)).get? a=some (listOf zs.toArray q):=⟨_,by rw[Heap.get?_update_self (Obj.mapSeq f) ho rfl];simp only[Obj.mapSeq,e];rfl⟩
 exact hq _ s.toks v r _ _ hk hr ⟨zs,⟨a,q,rfl,hg,af (c6 hx.length) hz⟩,hx⟩ rfl (fun b o hb e=>(Heap.get?_update_other _ _ (Ne.symm hb)).trans e) hg rfl
theorem pU{b:Bool}{x y:aH}(h:(bif b then x else y)=some out):(b=true∧x=some out)∨y=some out:=by
 induction b using ag with
 |true=>exact .inl ⟨rfl,h⟩
 |false=>exact .inr h
theorem Cp{c:MV}{m:Str}{k:MV→MV→aH}(h:zh m c ts k=some out)(qs:dG F s.heap.get?)(iG:D.f0 F s.heap.get? c (.ref a))(hv:D.dm F ts vs)
 (hq:K8 D F s a k out Q):wpAny (model D.prog D.w) A (call (.builtin (DQ m)) (.ref a::vs)) Q E s:=by
 induction c using MV.casesOn with
 |list us=>
  obtain⟨b,kk,ws,e,ho,Di,hz⟩:=gf iG
  clear iG
  obtain rfl:=eM e
  have hl:ws.length=us.length:=Di.length
  have hT:s.TypeIs (.ref a) "list":=⟨_,ho,rfl⟩
  have NQ:=fQ
  rcases pU h with⟨q,g⟩|g
  .clear h
   obtain rfl:=jr q
   obtain⟨t,r,rfl,h⟩:=bL g
   clear g
   obtain⟨rfl,g⟩:=cm h
   clear h
   obtain⟨Ka,g⟩:=aJ g
   have Ka:=aj Ka
   obtain⟨v,lC,rfl,h1,h2⟩:=hv.lh
   obtain rfl:=h2.none
   refine call_meets PySem.F.slot_list_append hT PySem.F.entry_list_append (PySem.F.args_list_append_2 _ _) (list_append a ws.toArray kk v (by simp;lia)) ⟨ho,?_⟩
   exact hq.list ho (List.push_toArray ..) (dm.append Di hv) (by simp;exact af ‹_› (aa rfl)) g (oK (D:=D))
  clear h
  rcases pU g with⟨q,h⟩|h
  .clear g
   obtain rfl:=jr q
   obtain⟨rfl,g⟩:=cm h
   clear h
   obtain⟨t,qB,g⟩:=cL g
   obtain rfl:=hv.none
   rw[List.getLast?_eq_getElem?]at qB
   have gh:0<us.length:=by
    induction us using aO with
    |nil=>exact nn qB
    |cons=>exact Nat.succ_pos _
   obtain⟨v,Yp,Yo⟩:=Di.get qB
   refine call_meets PySem.F.slot_list_pop hT PySem.F.entry_list_pop (PySem.F.args_list_pop_1 _) (MeetsSeq.list_pop_last a ws.toArray kk v (by simpa [hl]using Yp) (by simp;lia)) ⟨ho,?_⟩
   refine hq.list ho ?_ Di.dropLast (by simp;exact Nat.le_succ_of_le ‹_›) g Yo
   have gG:ws.toArray.size-1<ws.toArray.size:=Nat.sub_lt (by simp;exact hl.symm▸gh) Nat.one_pos
   exact(dif_pos gG).trans ((List.eraseIdx_toArray ..).trans (aB List.toArray (List.eraseIdx_length_sub_one ..)))
  clear g
  rcases pU h with⟨q,g⟩|g
  .clear h
   obtain rfl:=jr q
   obtain⟨t,r,rfl,h⟩:=bL g
   clear g
   obtain⟨rfl,g⟩:=cm h
   clear h
   obtain⟨xs,rfl,h⟩:=ju g
   clear g
   obtain⟨Ka,g⟩:=aJ h
   clear h
   have Ka:=aj Ka
   obtain⟨v,lC,rfl,h1,h2⟩:=hv.lh
   clear hv
   obtain rfl:=h2.none
   obtain⟨b2,k2,ys,rfl,YF,WA,Z3⟩:=oJ qs h1
   have WI:ys.length=xs.length:=WA.length
   refine call_meets PySem.F.slot_list_extend hT PySem.F.entry_list_extend (PySem.F.args_list_extend_2 _ _) (AutoSeq1.list_extend_list_list_0 a ws.toArray kk b2 ys.toArray k2 (extend_door (by simp;lia)) (by simp;lia) (by simp;lia)) ⟨ho,YF,?_⟩
   exact hq.list ho (List.append_toArray ..) (dm.append Di WA) (by simp;exact af ‹_› (aa rfl)) g (oK (D:=D))
  exact nn g
 |set is=>
  obtain⟨ws,⟨⟨b,o,e,ho,hs⟩,hw⟩,Y⟩:=iG
  obtain rfl:=eM e
  rcases pU h with⟨q,g⟩|g
  .clear h
   obtain rfl:=jr q
   obtain⟨t,r,rfl,h⟩:=bL g
   clear g
   obtain⟨rfl,g⟩:=cm h
   clear h
   obtain⟨i,rfl,h⟩:=dE g
   clear g
   obtain⟨Ka,g⟩:=aJ h
   clear h
   obtain⟨v,lC,rfl,h1,h2⟩:=hv.lh
   clear hv
   obtain rfl:=h2.none
   obtain⟨t,rfl⟩:=gj (D:=D) h1
   refine ub ho hs (by simpa using Ka) fun h' tk o' tw hk Dj=>?_
   exact hq h' tk .none .none _ o' g (oK (D:=D)) ⟨[],⟨⟨a,o',rfl,tw,Dj⟩,rfl⟩,dm.nil⟩ rfl hk tw (Dj.1 D.prog D.w).1.2.1
  .exact nn g
 |_=>exact nn h
end
section
theorem dU.qo{x:fG}{sl:Slot}{t':MV}{h':Heap}{tk:Nat}(mz:st.get x=some sl)(hm:sl.gC=true)(ha:rv x=some (.ref a))
 (keep: ∀b o,b≠a→s.heap.get? b=some o→h'.get? b=some o) (hn:h'.get? a=some o):dU F st rv s F (st.put x (sl.with t')) { s with heap:=h',toks:=tk } where
 sh:=⟨_,_,rfl⟩
 le:=dG.refl F
 new:=fun b o e=> .inl e
 keep:=fun b o e no=>keep b o (fun q=>no (q▸⟨x,sl,mz,hm,ha⟩)) e
 own:=fun b q=>A2 mz q
 held:=fun b q=>si mz q
 alive:=fun b e z=>by
  have z:h'.get? b=none:=z
  by_cases q:b=a
  .exact fU (q▸z) hn
  .induction e':s.heap.get? b using ab with
   |none=>exact e e'
   |some ob=>exact fU z (keep b ob q e')
 cK:=xG mz
 keys:=St.f8 _ mz
theorem yC{o:Expr}{x:fG}(h:refKey cx st o=some x):kN o=true:=by
 rcases iA h with⟨y,p,rfl,Y⟩|⟨Y,h⟩
 .rfl
 .obtain⟨o,a,p,rfl,Y⟩:=gV h
  rfl
theorem xB(S:SR D F W env me st rv s.heap){x:fG}{c:MV}(e:vA (st.get x)=some c): ∃sl a,st.get x=some sl∧sl.gC=true∧rv x=some (.ref a)∧F a=none∧D.f0 F s.heap.get? c (.ref a)∧j3 s.heap (.ref a):=by
 obtain⟨sl,q1,q2,q3⟩:=sp e
 obtain⟨a,q4,q5,Y⟩:=S.held x sl q1 (Slot.dY q2)
 obtain⟨w,r1,r2⟩:=S.sl x sl q1
 obtain rfl:=dZ q4 r1
 refine⟨sl,a,q1,q2,q4,q5,?_⟩
 rw[q1]at q3
 clear q1 e r1 q4
 induction sl using Slot.casesOn with
 |own=>exact b8 q3▸⟨r2.1,r2.2.1⟩
 |cK=>exact b8 q3▸⟨r2.1,r2.2.1⟩
 |_=>exact ew q2
theorem B6(S:SR D F W env me st rv s.heap){x:fG}{c:MV}{sl:Slot}(mz:st.get x=some sl)(hh:sl.dX=true)(e:m8 (st.get x)=some c): ∃a,rv x=some (.ref a)∧D.f0 F s.heap.get? c (.ref a)∧j3 s.heap (.ref a):=by
 obtain⟨a,q4,Y⟩:=S.held x sl mz hh
 obtain⟨w,r1,r2⟩:=S.sl x sl mz
 obtain rfl:=dZ q4 r1
 refine⟨a,q4,?_⟩
 rw[mz]at e
 clear mz r1 q4
 induction sl using Slot.casesOn with
 |own=>exact b8 e▸⟨r2.1,r2.2.1⟩
 |cK=>exact b8 e▸⟨r2.1,r2.2.1⟩
 |ro=>exact b8 e▸⟨r2.1,r2.2.1⟩
 |_=>exact ew hh
theorem Gi(hR:d4 D n R)(ha:ey A n)(hc:cy D n cx env)(S:SR D F W env me st rv s.heap){o:Expr}{m:Str}{lA pos:Pos}{x:fG}(iR:(lA.endLine==pos.line)=true)
 (hs:er args=true) (hz:args.length<20) (hx:gM cx st o=some x)
 (h:((m8 (st.get x)).bind fun DE=>bif AI m DE then eH (R cx) cx [] args st fun as st=>(oq as).bind fun ts=>(vA (st.get x)).bind fun c=>zh m c ts fun r c'=>k false r (st.mr x c')else none)=some out):wpAny (model D.prog D.w) A (eval (.Call (.Attribute o m lA) args [] pos) env) (bP D F W env me st rv s k out) E s:=by
 obtain⟨IZ,sl,mz,Ke⟩:=oV hx
 obtain⟨DE,WF,h⟩:=cL h
 obtain⟨I1,h⟩:=aJ h
 obtain⟨a,BD,iG⟩:=B6 S mz Ke WF
 clear mz Ke WF hx
 refine mW (yC IZ) iR hs hz (lY hc S IZ BD rfl fun tk pl=>?_)
 refine Ik (s:={ s with toks:=tk }) iG.1 iG.2 I1 (callWith_builtin (gq hs) (fe hs (wm (ig (s:={ s with toks:=tk }) hR ha hc pos h S) ?_)))
 clear h iG IZ iR hs I1
 rintro vs bk ⟨bK,ts,aR,aP,bX,bh,gD⟩
 obtain⟨c,e2,aP⟩:=cL aP
 obtain⟨wQ,a',q1,q2,q4,q5,Hg,Y⟩:=xB bh e2
 obtain rfl:=eM (dZ BD q4)
 clear e2 q4
 have K6:dU F st rv s bK aR bk:=(dU.same fun Y Y q=>q).trans bX
 refine(?_:wpAny _ A (call (.builtin (DQ m)) (.ref a::vs)) _ E bk)
 refine Cp aP bh.fz Hg gD ?_
 clear aP Hg gD bX
 intro h' n9 v r c' o' hk hr D3 NK keep Kc lF
 have Dy:aR.mr x c'=aR.put x (wQ.with c'):=by unfold St.mr;rw[q1]
 exact bP.dD (Dy▸hk) (K6.trans (dU.qo (s:=bk) q1 q2 BD keep Kc)) (bh.qo q1 q2 BD (dG.refl _) (fun b ob e=>keep b ob (fun q=>fU (q▸q5) e) (bh.fz b ob e)) (fun Y Y e=> .inl e) (fun b ob e ne Y=>keep b ob ne e) D3 (fun b e=>eM e▸⟨o',Kc,lF⟩) NK) hr
set_option maxRecDepth 100000 in
theorem Ai(hR:d4 D n R)(ha:ey A n)(hc:cy D n cx env)(S:SR D F W env me st rv s.heap){o:Expr}{m:Str}{lA pos:Pos}(hb:kN o=true)(iR:(lA.endLine==pos.line)=true)
 (hs:er args=true) (hz:args.length<20)
 (h:(R cx o st fun Y t st=>BM t fun s=>bif pE m "strip"&&args.isEmpty&&aQ s.length then k false (.str (Txt.strip s)) st else none)=some out):wpAny (model D.prog D.w) A (eval (.Call (.Attribute o m lA) args [] pos) env) (bP D F W env me st rv s k out) E s:=by
 refine mW hb iR hs hz (wm (hR.aw h ha hc S) ?_)
 clear hs hz h
 rintro v bk ⟨bK,t,aR,aP,bX,bh,hv⟩ pl
 obtain⟨x,rfl,dy⟩:=oX aP
 clear aP
 obtain⟨hq,fu⟩:=aJ dy
 clear dy
 obtain⟨hq,q3⟩:=au.mp hq
 obtain⟨q1,q2⟩:=au.mp hq
 obtain rfl:=jr q1
 obtain⟨t,rfl⟩:=vI (D:=D) hv
 obtain rfl:args=[]:=List.isEmpty_iff.mp q2
 obtain⟨T,id,pa,gg,Yq,hT,hd,Y4⟩:=PySem.SB.strip (prog:=D.prog) (w:=D.w) (A:=A) (E:=E) (s:=bk) (x:=x) (t:=t) (pos:=pos) (Q:=bP D F W env me st rv s k out)
  (fun t' tk=>bP.dD fu (bX.trans (dU.same fun Y Y q=>q)) bh (vM (D:=D) (F:=bK))) (af (aj q3) (show 1000000≤sizeLine by decide))
 exact getMethod_builtin hT pa gg Yq hd Y4
theorem CV(hR:d4 D n R)(ha:ey A n)(hc:cy D n cx env)(S:SR D F W env me st rv s.heap){p pos:Pos}(hl:cx.sc.names.lookup x=some .globalImplicit)(hs:er args=true)
 (h:km (R cx) cx x args st k=some out):wpAny (model D.prog D.w) A (eval (.Call (.Name x p) args [] pos) env) (bP D F W env me st rv s k out) E s:=by
 unfold km at h
 induction hf:cx.fn x using ab with
 |some c=>rw[hf]at h;exact yW hR ha hc S hl hf hs h
 |none=>
  rw[hf]at h
  obtain⟨hx,g0⟩:=rz h
  clear h
  have hx:=aj hx
  rcases pU g0 with⟨q,g⟩|g
  .clear g0
   obtain⟨e,r,rfl,h⟩:=bL g
   clear g
   obtain rfl:r=[]:=bM.mp (Nat.succ.inj (aj q))
   exact ud hR ha hc S hl hx hs h
  .exact uc hR ha hc S hl hx hs g
theorem Iv(hR:d4 D n R)(UE:20≤n)(ha:ey A n)(hc:cy D n cx env)(S:SR D F W env me st rv s.heap){f:Expr}(h:vT (R cx) cx f args pos st k=some out):
 wpAny (model D.prog D.w) A (eval (.Call f args [] pos) env) (bP D F W env me st rv s k out) E s:=by
 obtain⟨hs,g0⟩:=aJ h
 clear h
 obtain⟨hs,hz⟩:=au.mp hs
 have hz:=aj hz
 rcases iA g0 with⟨x,p,rfl,g⟩|⟨Y,g⟩
 .clear g0
  rcases pU g with⟨hl,h⟩|h
  .exact CV hR ha hc S (aj hl) hs h
  .obtain⟨hl,h⟩:=aJ h
   obtain⟨g,hg,h⟩:=Iz h
   exact Gj hR UE ha hc S (aj hl) hg hs h
 .clear g0
  obtain⟨o,m,lA,rfl,h'⟩:=gV g
  clear g
  obtain⟨iR,h⟩:=rz h'
  clear h'
  induction hx:gM cx st o using ab with
  |some x=>rw[hx]at h;exact Gi hR ha hc S iR hs hz hx h
  |none=>
   rw[hx]at h
   rcases iA h with⟨y,p,rfl,g⟩|⟨Y,g⟩
   .rcases EH g with⟨C,hy,h⟩|h
    .obtain⟨hq,h⟩:=rz h
     obtain⟨hv,hm⟩:=au.mp hq
     exact IB hR ha hc S iR hs hz hy hv (aj hm) h
    .exact CU hR ha hc S rfl iR hs hz h
   .obtain⟨hb,h⟩:=rz g
    exact Ai hR ha hc S hb iR hs hz h
end
noncomputable def RV.set(rv:RV)(x:fG)(v:Value):RV:=fun k=>if k=x then some v else rv k
theorem RV.fO(rv:RV)(x:fG)(v:Value):rv.set x v x=some v:=aF rfl
theorem RV.fN{x k:fG}(h:k≠x):rv.set x v k=rv k:=az h
theorem St.mx{x:fG}(sl:Slot)(h:st.get x=none):(st.put x sl).map (·.1)=st.map (·.1)++[x]:=by
 induction st with
 |nil=>rfl
 |cons p r ih=>
  by_cases q:x=p.1
  .exact Sn ((aF q).symm.trans h)
  .unfold St.put
   rw[az q]
   exact aB (p.1:: ·) (ih ((az q).symm.trans h))
theorem St.get_none{x:fG}(h:st.get x=none):x∉st.map (·.1):=by
 induction st with
 |nil=>exact fun q=>jZ q
 |cons p r ih=>
  by_cases q:x=p.1
  .exact Sn ((aF q).symm.trans h)
  .exact fun z=>(aA.mp z).elim q (ih ((az q).symm.trans h))
theorem St.qp{x:fG}(sl:Slot)(h:(st.map (·.1)).Nodup):((st.put x sl).map (·.1)).Nodup:=by
 induction q:st.get x using ab with
 |some aZ=>rw[St.f8 sl q];exact h
 |none=>
  rw[St.mx sl q]
  refine List.nodup_append.mpr ⟨h,bC.mpr ⟨fun z=>jZ z,.nil⟩,fun a ha b hb e=>St.get_none q ?_⟩
  exact cj.mp hb▸e▸ha
theorem gP(st:St):d5 st=(st.map (·.1)).filterMap fun k=>match k with| .a x=>some x| .v _=>none:=by
 induction st with
 |nil=>rfl
 |cons p r ih=>
  obtain⟨k,s⟩:=p
  induction k using fG.casesOn with
  |a x=>exact aB (x:: ·) ih
  |v x=>exact ih
theorem s7(st:St)(x:Str)(sl:Slot):d5 (st.put (.v x) sl)=d5 st:=by
 rw[gP,gP]
 induction q:st.get (.v x)using ab with
 |some aZ=>rw[St.f8 sl q]
 |none=>rw[St.mx sl q,List.filterMap_append];exact bG _
section
theorem SR.jE{h h':Heap}(S:SR D F W env me st rv h){G:Addr→Prop}(hk: ∀b o,¬G b→h.get? b=some o→h'.get? b=some o)(gF: ∀b,G b→F b=none)(gH: ∀b,G b→ ¬dh st rv b)
 (gm: ∀b,G b→ ∀i C d,me=some (i,C,d)→b≠i∧b≠d) (gl: ¬G env.locals) (gc: ∀p∈env.cells,¬G p.2) (al: ∀b,W b→ ∃o,h'.get? b=some o):SR D F W env me st rv h':=
 S.step (dG.refl F) (fun b o e=>hk b o (fun g=>fU (gF b g) e) (S.fz b o e)) (fun Y Y=> .inl) (X:=G) (fun b o e g Y=>hk b o g e) gl gc al gm rfl fun k s' e=> .inl ⟨e,fun b r hh g=>gH b g ⟨k,s',e,hh,r⟩⟩
noncomputable def gO(D:Wd)(F:FH)(W:Addr→Prop)(st:St)(rv:RV)(me:Me)(h:Heap)(sl:Slot)(v:Value):Prop:=match sl with
 | .aw t=>D.VR F t v
 | .own t=>qW D F W st rv me h t v
 | .me C=> ∃i d,me=some (i,C,d)∧v= .ref i
 | .cK _=>False
 | .ro _=>False
theorem gO.held{sl:Slot}(hn:gO D F W st rv me h sl v)(hh:sl.dX=true): ∃t,sl= .own t∧qW D F W st rv me h t v:=by
 induction sl using Slot.casesOn with
 |own t=>exact⟨t,rfl,hn⟩
 |aw=>exact ew hh
 |me=>exact ew hh
 |_=>exact hn.elim
theorem SR.put3{h h':Heap}(S:SR D F W env me st rv h){x:fG}{sl:Slot}{c:Addr}(Tp: ¬dh st rv c)(Tl: ∀t,sl= .own t→v≠ .ref c)(hk: ∀b o,b≠c→h.get? b=some o→h'.get? b=some o)(hn:gO D F W st rv me h sl v):
 (∀k s',(st.put x sl).get k=some s'→ ∃w,rv.set x v k=some w∧nu D F h' me s' w)∧(∀k s',(st.put x sl).get k=some s'→s'.dX=true→ ∃a,rv.set x v k=some (.ref a)∧F a=none∧ ¬W a∧ ∀i C d,me=some (i,C,d)→a≠i∧a≠d)∧
 ∀k k' s1 s2 b,(st.put x sl).get k=some s1→(st.put x sl).get k'=some s2→s1.gC=true→s2.dX=true→rv.set x v k=some (.ref b)→rv.set x v k'=some (.ref b)→k=k':=by
 have new {k:fG} {s:Slot} (q:k=x) (e:s=sl) (hh:s.dX=true): ∃a,v= .ref a∧F a=none∧ ¬W a∧ ¬dh st rv a∧ ∀i C d,me=some (i,C,d)→a≠i∧a≠d:=by
  obtain⟨t,Y,hn⟩:=hn.held (e▸hh)
  exact hn.ref
 refine⟨fun k s' e=>?_,fun k s' e hh=>?_,fun k k' s1 s2 b e1 e2 m1 m2 r1 r2=>?_⟩
 .rcases St.eG e with⟨rfl,rfl⟩|⟨q,e⟩
  .refine⟨v,RV.fO ..,?_⟩
   clear e new
   induction s' using Slot.casesOn with
   |aw t=>exact hn
   |own t=>
    obtain⟨Y,iG,hb,hx⟩:=hn
    exact nu.move (h:=h) (s:= .own t) ⟨iG,hb,hx⟩ (dG.refl F) fun Y b o z w=>hk b o (fun q=>Tl t rfl (q▸z)) w
   |me C=>exact hn
   |_=>exact hn.elim
  .obtain⟨w,h1,h2⟩:=S.sl k s' e
   refine⟨w,(RV.fN q).trans h1,h2.move (dG.refl F) fun hh b o z w'=>hk b o (fun q=>Tp ⟨k,s',e,hh,?_⟩) w'⟩
   rw[h1,z,q]
 .rcases St.eG e with⟨rfl,rfl⟩|⟨q,e⟩
  .obtain⟨a,rfl,h1,h2,Y,h3⟩:=new rfl rfl hh
   exact⟨a,RV.fO ..,h1,h2,h3⟩
  .obtain⟨b,h1,h2⟩:=S.held k s' e hh
   exact⟨b,(RV.fN q).trans h1,h2⟩
 .rcases St.eG e1 with⟨q1,z1⟩|⟨q1,W2⟩
  .rcases St.eG e2 with⟨q2,Y⟩|⟨q2,TD⟩
   .exact q1.trans q2.symm
   .obtain⟨a,h1,Y,Y,h2,Y⟩:=new q1 z1 (Slot.dY m1)
    have r1:some v=some (.ref b):=(RV.fO ..).symm.trans (q1▸r1)
    exact absurd ⟨k',s2,TD,m2,(RV.fN q2).symm.trans (r2.trans (r1.symm.trans (aB some h1)))⟩ h2
  .rw[RV.fN q1]at r1
   rcases St.eG e2 with⟨q2,z2⟩|⟨q2,TD⟩
   .obtain⟨a,h1,Y,Y,h2,Y⟩:=new q2 z2 m2
    have r2:some v=some (.ref b):=(RV.fO ..).symm.trans (q2▸r2)
    exact absurd ⟨k,s1,W2,Slot.dY m1,r1.trans (r2.symm.trans (aB some h1))⟩ h2
   .exact S.dist k k' s1 s2 b W2 TD m1 m2 r1 ((RV.fN q2).symm.trans r2)
theorem SR.Bv{h h':Heap}(S:SR D F W env me st rv h){sl:Slot}{c:Addr}(rj:W c)(hk: ∀b o,b≠c→h.get? b=some o→h'.get? b=some o)(BC: ∃o,h'.get? c=some o)
 (pl: ∀y w,y≠x→j7 env h y w→j7 env h' y w) (px:j7 env h' x v) (ln: ∃m,h'.Ns env.locals m) (ce: ∀p∈env.cells,∃v,h'.IsCell p.2 v)
 (hn:gO D F W st rv me h sl v):SR D F W env me (st.put (.v x) sl) (rv.set (.v x) v) h':=by
 have Y8:F c=none:=S.wf c rj
 have Tp: ¬dh st rv c:=fun⟨k,s',e,hh,hr⟩=>by
  obtain⟨b,h1,Y,h3,Y⟩:=S.held k s' e hh
  exact h3 (eM (dZ hr h1)▸rj)
 have R7: ∀i C d,me=some (i,C,d)→c≠i∧c≠d:=fun i C d e=>⟨fun q=>(S.mw i C d e).1 (q▸rj),fun q=>(S.mw i C d e).2 (q▸rj)⟩
 obtain⟨p1,p2,p3⟩:=S.put3 (x:= .v x) (c:=c) Tp (fun t e z=>by
  subst e
  obtain⟨⟨a,rfl,Y,hW,Y⟩,Y⟩:=hn
  exact hW (eM z▸rj)) hk hn
 refine⟨fun b o e=>hk b o (fun q=>fU (q▸Y8) e) (S.fz b o e),S.base,S.wf,fun b w=>?_,p1,p2,p3,fun y w e=>?_,fun y w e i C d q=>?_,fun i C d q=>?_,S.pw,⟨St.qp sl S.ma.1,fun i C d q=>?_⟩,S.mw,ln,ce⟩
 .by_cases q:b=c
  .exact q▸BC
  .obtain⟨o,e⟩:=S.wx b w;exact⟨o,hk b o q e⟩
 .by_cases q:y=x
  .have e:some v=some w:=(RV.fO ..).symm.trans (q▸e)
   exact b8 e▸q▸px
  .exact pl y w q (S.As y w ((RV.fN fun z=>q (fG.v.inj z)).symm.trans e))
 .obtain⟨es,m,h1,h2⟩:=S.Gu y w ((RV.fN (k:= .a y) (x:= .v x) nofun).symm.trans e) i C d q
  exact⟨es,m,hk _ _ (R7 i C d q).2.symm h1,h2⟩
 .obtain⟨h1,h2,h3,es,m,h4⟩:=S.me i C d q
  exact⟨hk _ _ (R7 i C d q).1.symm h1,h2,h3,es,m,hk _ _ (R7 i C d q).2.symm h4⟩
 .obtain⟨es,m,h1,h2,h3⟩:=S.ma.2 i C d q
  rw[s7]
  exact⟨es,m,hk _ _ (R7 i C d q).2.symm h1,h2,h3.trans (List.map_congr_left fun y Y=>(RV.fN (k:= .a y) (x:= .v x) nofun).symm)⟩
theorem cells_apart{l:List (Str×Addr)}(h:l.Pairwise fun x y=>x.2≠y.2){x y:Str}{c d:Addr}(h1:l.lookup x=some c)(h2:l.lookup y=some d)(lw:x≠y):c≠d:=by
 intro e
 subst e
 have m1:=mem_lookup h1
 have m2:=mem_lookup h2
 clear h1 h2
 induction l with
 |nil=>exact jZ m1
 |cons p r ih=>
  rw[List.pairwise_cons]at h
  cases m1 with
  |head=>cases m2 with
   |head=>exact lw rfl
   |tail _ m2=>exact h.1 _ m2 rfl
  |tail _ m1=>cases m2 with
   |head=>exact h.1 _ m1 rfl
   |tail _ m2=>exact ih h.2 m1 m2
structure Pl(env:Env):Prop where
 kf:env.scope.kind= .function
 ap:env.cells.Pairwise fun x y=>x.2≠y.2
 lc: ∀p∈env.cells,p.2≠env.locals
theorem cy.pl(hc:cy D n cx env):Pl env:=⟨hc.kf,hc.ap,hc.lc⟩
theorem gv(hp:Pl env)(S:SR D F W env me st rv s.heap){sl:Slot}(hk:env.kindOf x=some .local∨(env.kindOf x=some .cell∧ ∃c,env.cells.lookup x=some c∧W c))(hn:gO D F W st rv me s.heap sl v)
 {Q:Unit→Shared→Prop}
 (hq: ∀h' tk,SR D F W env me (st.put (.v x) sl) (rv.set (.v x) v) h'→(∀b o,¬W b→s.heap.get? b=some o→h'.get? b=some o)→(∀b o,b≠env.locals→env.cells.lookup x≠some b→s.heap.get? b=some o→h'.get? b=some o)→
   (∀b,s.heap.get? b≠none→h'.get? b≠none)→Q () { s with heap:=h',toks:=tk }):wpAny (model D.prog D.w) A (storeName env x v) Q E s:=by
 rcases hk with hk|⟨hk,c,hc,hW⟩
 .obtain⟨rD,JE⟩:=S.Bt
  refine wpAny_storeName_local hk JE (fun h' jI Db=>?_) (by exact ae hp.kf rfl)
  have keep: ∀b o,b≠env.locals→s.heap.get? b=some o→h'.get? b=some o:=fun b o q e=>(Db.2 b q).trans e
  have al: ∃o,h'.get? env.locals=some o:=by obtain⟨o,Y,Y,e,Y⟩:=jI;exact⟨o,e⟩
  refine hq h' _ (S.Bv (c:=env.locals) S.pw.1 keep al ?_ ?_ ⟨_,jI⟩ ?_ hn) (fun b o nw e=>keep b o (fun q=>nw (q▸S.pw.1)) e) (fun b o q Y e=>keep b o q e) fun b e=>?_
  .intro y w hy p
   refine⟨fun q=>?_,fun q=>?_⟩
   .obtain⟨m,hm,e⟩:=p.1 q
    have:m=rD:=by
     obtain⟨o,es,ep,a1,a2,a3,a4⟩:=hm
     obtain⟨o',I6,W0,b1,b2,b3,b4⟩:=JE
     obtain rfl:=dZ a1 b1
     rw[a2]at b2;cases b2
     funext z;exact ft (a4 ..) (ft (b4 ..) rfl)
    subst this
    exact⟨_,jI,by exact(az hy).trans e⟩
   .obtain⟨c,h1,h2⟩:=p.2 q
    exact⟨c,h1,h2.sameBut Db (hp.lc _ (mem_lookup h1))⟩
  .refine⟨fun Y=>⟨_,jI,aF rfl⟩,fun q=>?_⟩
   rcases q with q|q<;>(rw[hk]at q;cases q)
  .intro p GU
   obtain⟨v,hv⟩:=S.tn p GU
   exact⟨v,hv.sameBut Db (hp.lc p GU)⟩
  .by_cases q:b=env.locals
   .obtain⟨o,ho⟩:=al;exact ae q (ae ho (fun z=>nomatch z))
   .induction e':s.heap.get? b using ab with
    |none=>exact absurd e' e
    |some o=>exact ae (keep b o q e') (fun z=>nomatch z)
 .obtain⟨G3,QA⟩:=S.tn _ (mem_lookup hc)
  refine wpAny_storeName_cell hp.kf hk hc QA fun h' iT Db=>?_
  have keep: ∀b o,b≠c→s.heap.get? b=some o→h'.get? b=some o:=fun b o q e=>(Db.2 b q).trans e
  have al: ∃o,h'.get? c=some o:=by obtain⟨o,e,Y⟩:=iT;exact⟨o,e⟩
  have WH:c≠env.locals:=hp.lc _ (mem_lookup hc)
  refine hq h' s.toks (S.Bv (c:=c) hW keep al ?_ ?_ ?_ ?_ hn) (fun b o nw e=>keep b o (fun q=>nw (q▸hW)) e) (fun b o Y q e=>keep b o (fun z=>q (z▸hc)) e) fun b e=>?_
  .intro y w hy p
   refine⟨fun q=>?_,fun q=>?_⟩
   .obtain⟨m,hm,e⟩:=p.1 q
    exact⟨m,hm.sameBut Db (Ne.symm WH),e⟩
   .obtain⟨d,h1,h2⟩:=p.2 q
    exact⟨d,h1,h2.sameBut Db (cells_apart hp.ap h1 hc hy)⟩
  .refine⟨fun q=>(by rw[hk]at q;cases q),fun q=>⟨c,hc,iT⟩⟩
  .obtain⟨m,hm⟩:=S.Bt
   exact⟨m,hm.sameBut Db (Ne.symm WH)⟩
  .intro p GU
   by_cases q:p.2=c
   .exact ae q (⟨_,iT⟩)
   .obtain⟨v,hv⟩:=S.tn p GU
    exact⟨v,hv.sameBut Db q⟩
  .by_cases q:b=c
   .obtain⟨o,ho⟩:=al;exact ae q (ae ho (fun z=>nomatch z))
   .induction e':s.heap.get? b using ab with
    |none=>exact absurd e' e
    |some o=>exact ae (keep b o q e') (fun z=>nomatch z)
end
theorem Walks.imp{prog:Program}{w:World}{I:Addr}{fp wr:List Addr}{P P':Nat→Value→Prop}{St:Nat→Heap→Prop}(W:Walks prog w A I fp wr n P St)(hP: ∀i v,P i v→P' i v):Walks prog w A I fp wr n P' St where
 sub:=W.sub
 frame:=W.frame
 item:=fun i s Q E hi st hQ=>W.item i s Q E hi st fun v h' tk hp=>hQ v h' tk (hP i v hp)
 done:=W.done
 self:=W.self
section
noncomputable def Rt(D:Wd)(A:Around)(F:FH)(ts:List MV)(s:Shared)(Q:Value→Shared→Prop):Prop:=
 ∀(I:Addr)(h':Heap)(fp:List Addr)(St:Nat→Heap→Prop),s.heap.get? I=none→(∀b o,s.heap.get? b=some o→h'.get? b=some o)→(∀i h,St i h→ ∃o,h.get? I=some o)→(∀b∈fp,b=I∨ ∃o,F b=some o)→
  Walks D.prog D.w A I fp [I] ts.length (fun(i:Nat)(v:Value)=> ∃t,ts[i]? =some t∧D.VR F t v) St→St 0 h'→Q (.ref I) { s with heap:=h' }
theorem sO(ha:ey A n)(S:SR D F W env me st rv s.heap){c:MV}(hi:d7 c=some ts)(hz:ts.length≤1000000)(hv:D.VR F c v)(hq:Rt D A F ts s Q):
 wpAny (model D.prog D.w) A (pyIter v) Q E s:=by
 have fresh:=cE s.heap
 have ne: ∀{b o},s.heap.get? b=some o→b≠s.heap.objs.size:=fun e=>dq (cr e)
 have N5: ∀{us:List MV}{vs:List Value},D.dm F us vs→ ∀(i:Nat)(v:Value),vs.toArray[i]? =some v→ ∃t,us[i]? =some t∧D.VR F t v:=by
  intro us vs h i v e
  have hl:vs.length=us.length:=h.length
  have e':vs[i]? =some v:=List.getElem?_toArray.symm.trans e
  have gG:i<us.length:=hl▸(a8.mp e').1
  clear e;obtain⟨w,h1,h2⟩:=h.get (aq gG)
  obtain rfl:=dZ h1 e'
  exact⟨_,aq gG,h2⟩
 induction c using MV.casesOn with
 |list us=>
  obtain rfl:=(b8 hi).symm
  clear hi
  obtain⟨vs,⟨a,m,rfl,hF,Y⟩,gD⟩:=dO.mp hv
  clear hv
  have ho:=S.fz _ _ hF
  have hl:vs.length=ts.length:=dm.length gD
  have il:=dj ho
  refine wpAny_pyIter_list il (hq _ _ [s.heap.objs.size,a] (fun i h=>h.IsListIter s.heap.objs.size a i∧h.IsList a vs.toArray) fresh (cO _) (fun Y Y z=>by obtain⟨o,e,Y⟩:=z.1;exact⟨o,e⟩) (fun b hb=>?_) ?_ ⟨⟨_,bt _ rfl,rfl,rfl⟩,il.at fun o e=>cO _ _ o e⟩)
  .simp only[aA,cH,or_false]at hb
   exact hb.imp id fun e=>⟨_,e▸hF⟩
  .have W:=Walks.list (prog:=D.prog) (w:=D.w) (A:=A) ha.hh s.heap.objs.size a (ne ho) vs.toArray
   rw[show vs.toArray.size=ts.length from hl]at W
   exact Walks.imp W fun i v e=>N5 gD i v e
 |tup us=>
  obtain rfl:=(b8 hi).symm
  clear hi
  obtain⟨vs,⟨a,m,rfl,hF⟩,gD⟩:=dO.mp hv
  clear hv
  have ho:=S.fz _ _ hF
  have hl:vs.length=ts.length:=dm.length gD
  have il:s.heap.IsTuple a vs.toArray:=⟨_,ho,rfl,m,rfl⟩
  refine wpAny_pyIter_tuple il (hq _ _ [s.heap.objs.size,a] (fun i h=>h.IsTupleIter s.heap.objs.size a i∧h.IsTuple a vs.toArray) fresh (cO _) (fun Y Y z=>by obtain⟨o,e,Y⟩:=z.1;exact⟨o,e⟩) (fun b hb=>?_) ?_ ⟨⟨_,bt _ rfl,rfl,rfl⟩,il.at fun o e=>cO _ _ o e⟩)
  .simp only[aA,cH,or_false]at hb
   exact hb.imp id fun e=>⟨_,e▸hF⟩
  .have W:=Walks.tuple (prog:=D.prog) (w:=D.w) (A:=A) ha.hh s.heap.objs.size a (ne ho) vs.toArray
   rw[show vs.toArray.size=ts.length from hl]at W
   exact Walks.imp W fun i v e=>N5 gD i v e
 |range lo hh bB=>
  obtain⟨Y,⟨⟨a,t,u,y,rfl,hF⟩,hr,Y⟩,Y⟩:=dO.mp hv
  clear hv
  have ho:=S.fz _ _ hF
  obtain⟨h1,h2,h3,h4⟩:=o8 hi hr (by exact af ‹_› (aa rfl))
  refine wpAny_pyIter_range (t:=t) (u:=u) (v:=y) ho h1 (hq _ _ [s.heap.objs.size] (fun i h=>IsRangeIter h s.heap.objs.size (lo+(i:Nat)*bB) ((ts.length:Int)-(i:Nat)) bB) fresh (cO _) (fun Y Y z=>⟨_,z⟩) (fun b hb=>?_) ?_ ?_)
  .simp only[aA,cH,or_false]at hb
   exact .inl hb
  .refine Walks.imp (Walks.bound (Walks.range (prog:=D.prog) (w:=D.w) (A:=A) ha.hh s.heap.objs.size lo bB ts.length)) fun i v hp=>?_
   obtain⟨YC,YD⟩:=hp
   obtain⟨tk,rfl⟩:=YD
   refine⟨.int (lo+i*bB),?_,iL (D:=D)⟩
   refine ae h3 ((bA).trans (ae (List.getElem?_range (by simpa using YC)) ?_))
   rfl
  .refine ae h2 ?_
   refine(bt _ rfl).trans ?_
   simp[rawInt]
 |_=>exact nn hi
end
theorem cF: ∀(names:List (Str×NameKind))(k:Nat)(acc:List (Str×Addr)),cellsFrom k names acc=cellsFrom k names []++acc:=by
 intro l_
 induction l_ with
 |nil=>intro _ _;exact rfl
 |cons p_ r ih=>
  obtain⟨x,kind⟩:=p_
  intro k acc
  unfold cellsFrom
  split
  .exact(ih (k+1) ((x,k)::acc)).trans (ae (ih (k+1) [(x,k)]) (ae (bE ..) rfl))
  .exact ih k acc
theorem cellsFrom_names: ∀(names:List (Str×NameKind))(k:Nat)(p:Str×Addr),p∈cellsFrom k names []→(p.1,NameKind.cell)∈names:=by
 intro l_
 induction l_ with
 |nil=>intro _ _ h;exact jZ h
 |cons p_ r ih=>
  obtain⟨x,kind⟩:=p_
  intro k p h
  unfold cellsFrom at h
  split at h
  .rename_i q
   rw[cF]at h
   rcases List.mem_append.mp h with h|h
   .exact .tail _ (ih (k+1) p h)
   .simp at h;subst h
    have:kind= .cell:=by simpa using q
    subst this;exact .head _
  .exact .tail _ (ih k p h)
theorem ir: ∀(names:List (Str×NameKind))(k:Nat)(x:Str),(x,NameKind.cell)∈names→ ∃c,(cellsFrom k names []).lookup x=some c:=by
 intro l_
 induction l_ with
 |nil=>intro _ _ h;exact jZ h
 |cons p_ r ih=>
  obtain⟨y,kind⟩:=p_
  intro k x h
  have Jr: ∀{l:List (Str×Addr)}{c:Addr},(x,c)∈l→ ∃c,l.lookup x=some c:=by
   intro l
   induction l with
   |nil=>intro c h;exact jZ h
   |cons p r ih=>
    intro c h
    obtain⟨z,d⟩:=p
    refine ae de ?_
    by_cases q:(x==z)=true
    .exact ae q (⟨d,rfl⟩)
    .rw[Bool.not_eq_true]at q;refine ae q ?_
     cases h with
     |head=>simp at q
     |tail _ h=>exact ih h
  cases h with
  |head=>
   unfold cellsFrom
   refine ae (aF (by decide)) (ae (cF ..) ?_)
   exact Jr (c:=k) (List.mem_append_right _ (.head _))
  |tail _ h=>
   unfold cellsFrom
   split
   .refine ae (cF ..) ?_
    obtain⟨c,hc⟩:=ih (k+1) x h
    exact Jr (List.mem_append_left _ (mem_lookup hc))
   .exact ih k x h
theorem lookup_append{l m:List (Str×Addr)}:(l++m).lookup x=(l.lookup x).or (m.lookup x):=List.lookup_append
theorem mj{l:List (Str×Addr)}(h: ∀p∈l,p.1≠x):l.lookup x=none:=by
 induction l with
 |nil=>rfl
 |cons p r ih=>
  obtain⟨y,d⟩:=p
  refine de.trans ?_
  have:(x==y)=false:=by
   have:=h (y,d) (.head _)
   simpa using fun e:x=y=>this e.symm
  refine ae this ?_
  exact ih fun p hp=>h p (.tail _ hp)
section
variable{M:Model}
theorem v6{scope:Scope}{globals:Addr}{closure:List (Str×Addr)}{qual:Str}{func:Option Addr}{code:Value}{pV:Option Env}{builtins:Addr}{JX:List (Str×Value)}{Q:Env→Shared→Prop}
 (hQ:wpAny M A (forIn JX ⟨⟩ fun(p:Str×Value)(_:PUnit)=>storeName (newEnv scope s.heap.objs.size globals (cellsFrom (s.heap.objs.size+1) scope.names closure) qual func code pV builtins) p.1 p.2 >>= fun Y=>pure (ForInStep.yield PUnit.unit))
   (fun Y s'=>Q (newEnv scope s.heap.objs.size globals (cellsFrom (s.heap.objs.size+1) scope.names closure) qual func code pV builtins) s') E
   { s with heap:=pushCells (s.heap.push { cls:= .type (if pV.isSome then "dict" else "frame"),data:= .dict #[]}) scope.names }):
 wpAny M A (newFunctionEnv scope globals closure JX qual func code pV builtins) Q E s:=by
 refine ak (wpAny_alloc ?_)
 refine ak (wpAny_layCells _ (fun name kind cells=>by induction YR:kind==NameKind.cell using ag<;>simp[YR]) _ _ _ _ ?_)
 refine ae (show({ s with heap:=s.heap.push { cls:= .type (if pV.isSome=true then "dict" else "frame"),data:= .dict #[]}}:Shared).heap.objs.size=s.heap.objs.size+1 from Heap.size_push ..) ?_
 induction pV using ab with
 |none=>exact ak (wm hQ (fun Y s' h=>av h))
 |some o=>exact ak (wm hQ (fun Y s' h=>av h))
end
noncomputable def cR(env:Env):List (Str×NameKind)→List (Str×Addr)→List (Str×Addr)
 | [],acc=>acc
 |(x,k)::r,acc=>if k== .free then cR env r ((x,(env.cells.lookup x).getD 0)::acc)else cR env r acc
theorem jd(env:Env): ∀(names:List (Str×NameKind))(acc:List (Str×Addr)),cR env names acc=cR env names []++acc:=by
 intro l_
 induction l_ with
 |nil=>intro _;exact rfl
 |cons p_ r ih=>
  obtain⟨x,kind⟩:=p_
  intro acc
  unfold cR
  split
  .exact(ih (_::acc)).trans (ae (ih [_]) (ae (bE ..) rfl))
  .exact ih acc
theorem j8{scope:Scope}(h: ∀p∈scope.names,p.2= .free→ ∃c,env.cells.lookup p.1=some c):closureFor scope env=pure (cR env scope.names []):=by
 unfold closureFor
 revert h
 generalize scope.names=l
 intro h
 have key: ∀(l:List (Str×NameKind))(acc:List (Str×Addr)),(∀p∈l,p.2= .free→ ∃c,env.cells.lookup p.1=some c)→
  (forIn l acc fun(x:Str×NameKind)(r:List (Str×Addr))=>(do if x.2== .free then do let __x ←cellOf env x.1;pure (ForInStep.yield ((x.1,__x)::r))else pure (ForInStep.yield r):Sem _))=pure (cR env l acc):=by
  intro l
  induction l with
  |nil=>intro acc _;rfl
  |cons p r ih=>
   intro acc h
   obtain⟨x,k⟩:=p
   refine(List.forIn_cons ..).trans ?_
   unfold cR
   have hr: ∀q∈r,q.2= .free→ ∃c,env.cells.lookup q.1=some c:=fun q hq=>h q (.tail _ hq)
   split
   .rename_i q
    obtain⟨c,hc⟩:=h (x,k) (.head _) (by simpa using q)
    try dsimp only at hc
    unfold cellOf
    refine ae hc ?_
    simp only[pure_bind,Option.getD_some]
    exact ih _ hr
   .simp only[pure_bind]
    exact ih _ hr
 have:=key l [] h
 simp only[bind_pure_comp]at this ⊢
 first|exact this|(exact ae this rfl)|(simp[this])
theorem jc: ∀{names:List (Str×NameKind)}{p:Str×Addr},(∀q∈names,q.2= .free→ ∃c,env.cells.lookup q.1=some c)→p∈cR env names []→(p.1,NameKind.free)∈names∧env.cells.lookup p.1=some p.2:=by
 intro l_
 induction l_ with
 |nil=>intro _ _ h;exact jZ h
 |cons p_ r ih=>
  obtain⟨x,k⟩:=p_
  intro p hc h
  unfold cR at h
  split at h
  .rename_i q
   rw[jd]at h
   have hk:k= .free:=by simpa using q
   subst hk
   rcases List.mem_append.mp h with h|h
   .obtain⟨a,b⟩:=ih (fun q hq=>hc q (.tail _ hq)) h
    exact⟨.tail _ a,b⟩
   .simp at h;subst h
    obtain⟨c,e⟩:=hc _ (.head _) rfl
    refine⟨.head _,?_⟩
    try dsimp only at e ⊢
    rw[e];rfl
  .obtain⟨a,b⟩:=ih (fun q hq=>hc q (.tail _ hq)) h
   exact⟨.tail _ a,b⟩
theorem jC: ∀{names:List (Str×NameKind)},(names.map (·.1)).Nodup→((cR env names []).map (·.1)).Nodup∧ ∀x∈(cR env names []).map (·.1),x∈names.map (·.1):=by
 intro l_
 induction l_ with
 |nil=>intro _;exact⟨List.nodup_nil,fun x h=>h⟩
 |cons p_ r ih=>
  obtain⟨x,k⟩:=p_
  intro hn
  rw[bv,bC]at hn
  obtain⟨i1,i2⟩:=ih hn.2
  unfold cR
  split
  .refine ae (jd ..) (ae List.map_append ?_)
   refine⟨List.nodup_append.mpr ⟨i1,by simp,fun a ha b hb=>?_⟩,fun y hy=>?_⟩
   .simp at hb;subst hb
    exact fun e=>hn.1 (e▸i2 a ha)
   .clear hn;rcases List.mem_append.mp hy with hy|hy
    .exact .tail _ (i2 y hy)
    .simp at hy;subst hy;exact .head _
  .exact⟨i1,fun y hy=> .tail _ (i2 y hy)⟩
theorem qh: ∀{l:List (Str×Addr)}{x:Str}{c:Addr},(l.map (·.1)).Nodup→(x,c)∈l→l.lookup x=some c:=by
 intro l_
 induction l_ with
 |nil=>intro _ _ _ h;exact jZ h
 |cons p_ r ih=>
  obtain⟨y,d⟩:=p_
  intro x c hn h
  rw[bv,bC]at hn
  refine de.trans ?_
  cases h with
  |head=>simp
  |tail _ h=>
   have:(x==y)=false:=by
    have:x≠y:=fun e=>hn.1 (e▸List.mem_map_of_mem (f:=(·.1)) h)
    simpa using this
   exact ae this (ih hn.2 h)
theorem iM{names:List (Str×NameKind)}(hn:(names.map (·.1)).Nodup){c:Addr}(hx:(x,NameKind.free)∈names)(hc:env.cells.lookup x=some c):(cR env names []).lookup x=some c:=by
 refine qh (jC hn).1 ?_
 clear hn
 induction names with
 |nil=>exact jZ hx
 |cons p r ih=>
  obtain⟨y,k⟩:=p
  unfold cR
  cases hx with
  |head=>
   refine ae (aF (by decide)) (ae (jd ..) ?_)
   exact List.mem_append_right _ (by simp[hc])
  |tail _ hx=>
   split
   .exact ae (jd ..) (List.mem_append_left _ (ih hx))
   .exact ih hx
theorem tm(ap:env.cells.Pairwise fun x y=>x.2≠y.2){names:List (Str×NameKind)}(hn:(names.map (·.1)).Nodup)(hc: ∀q∈names,q.2= .free→ ∃c,env.cells.lookup q.1=some c):
 (cR env names []).Pairwise fun x y=>x.2≠y.2:=by
 have h1:=(jC (env:=env) hn).1
 have h2: ∀p∈cR env names [],env.cells.lookup p.1=some p.2:=fun p hp=>(jc hc hp).2
 generalize cR env names []=l at h1 h2
 induction l with
 |nil=>exact .nil
 |cons p r ih=>
  rw[bv,bC]at h1
  refine List.pairwise_cons.mpr ⟨fun q hq=>?_,ih h1.2 fun q hq=>h2 q (.tail _ hq)⟩
  refine cells_apart ap (h2 p (.head _)) (h2 q (.tail _ hq)) fun e=>h1.1 ?_
  exact ae e (List.mem_map_of_mem (f:=(·.1)) hq)
theorem mh(scope:Scope)(env:Env)(y:Str):(relabel scope env).names.lookup y=(scope.names.lookup y).map fun k=>if(k== .free&&env.scope.kind== .function&&env.kindOf y==some .cell)then NameKind.cell else k:=by
 unfold relabel
 dsimp only
 generalize scope.names=l
 induction l with
 |nil=>rfl
 |cons p r ih=>
  obtain⟨x,k⟩:=p
  refine ae bv ?_
  refine(?_:List.lookup y ((if(k==NameKind.free&&env.scope.kind== .function&&env.kindOf x==some .cell)=true then(x,NameKind.cell)else(x,k))::r.map fun(n,k)=>if(k==NameKind.free&&env.scope.kind== .function&&env.kindOf n==some .cell)=true then(n,NameKind.cell)else(n,k))=_)
  have hd: ∃k',(if(k==NameKind.free&&env.scope.kind== .function&&env.kindOf x==some .cell)=true then(x,NameKind.cell)else(x,k))=(x,k')∧k'=if(k==NameKind.free&&env.scope.kind== .function&&env.kindOf x==some .cell)=true then NameKind.cell else k:=by
   split<;>exact⟨_,rfl,rfl⟩
  obtain⟨k',e1,e2⟩:=hd
  refine ae e1 (de.trans (ae de ?_))
  by_cases q:(y==x)=true
  .have:y=x:=eq_of_beq q
   clear e1;subst this
   exact ae q (ae e2 rfl)
  .rw[Bool.not_eq_true]at q
   exact ae q ih
theorem eh(names:List (Str×NameKind))(k:Nat):((cellsFrom k names []).Pairwise fun x y=>x.2≠y.2)∧ ∀p∈cellsFrom k names [],k≤p.2:=by
 induction names generalizing k with
 |nil=>exact⟨.nil,fun p h=>jZ h⟩
 |cons p_ r ih=>
  obtain⟨x,kind⟩:=p_
  unfold cellsFrom
  by_cases q:(kind== .cell)=true
  .obtain⟨i1,i2⟩:=ih (k+1)
   rw[aF q,cF]
   refine⟨List.pairwise_append.mpr ⟨i1,List.pairwise_singleton ..,fun a ha b hb=>?_⟩,fun p hp=>?_⟩
   .exact cj.mp hb▸Nat.ne_of_gt (i2 a ha)
   .rcases List.mem_append.mp hp with hp|hp
    .exact ca (i2 p hp)
    .exact cj.mp hp▸bn _
  .rw[az q]
   exact ih k
theorem pj(names:List (Str×NameKind))(h:Heap): ∀p∈cellsFrom h.objs.size names [],(pushCells h names).IsCell p.2 none:=fun p hp=>
 ((cellsFrom_ok names h h.objs.size [] ⟨fun Y Y hm=>(nomatch hm),.nil⟩ (bn _)).empty p.1 p.2 hp).1
structure jv(m9 inner:Scope)(x:Str):Prop where
 kind:inner.kind= .function
 hx:inner.names.lookup x=some .local∨inner.names.lookup x=some .cell
 nd:(inner.names.map (·.1)).Nodup
 ok: ∀p∈inner.names,p.1≠Str.ofString "__debug__"∧p.1≠Str.ofString "__classdict__"∧(p.2= .cell→p.1=x)∧(p.2= .free→m9.names.lookup p.1=some .cell∨m9.names.lookup p.1=some .free)
theorem sX{m9 inner:Scope}(h:pT m9 inner x=true):jv m9 inner x:=by
 unfold pT at h
 simp only[aU,Bool.or_eq_true,a9,dg]at h
 obtain⟨⟨⟨h1,h2⟩,h3⟩,h4⟩:=h
 refine⟨h1,h2,h3,fun p hp=>?_⟩
 obtain⟨⟨a,b⟩,c⟩:=h4 p hp
 refine⟨a,b,fun e=>?_,fun e=>?_⟩
 .rw[e]at c;simpa using c
 .rw[e]at c;simpa using c
theorem dR{l:List (Str×NameKind)}{k:NameKind}(h:l.lookup x=some k):(x,k)∈l:=mem_lookup h
theorem fm{l:List (Str×NameKind)}(hn:(l.map (·.1)).Nodup){k:NameKind}(h:(x,k)∈l):l.lookup x=some k:=by
 induction l with
 |nil=>exact jZ h
 |cons p r ih=>
  obtain⟨y,d⟩:=p
  rw[bv,bC]at hn
  refine de.trans ?_
  cases h with
  |head=>simp
  |tail _ h=>
   have:(x==y)=false:=by
    have:x≠y:=fun e=>hn.1 (e▸List.mem_map_of_mem (f:=(·.1)) h)
    simpa using this
   exact ae this (ih hn.2 h)
noncomputable abbrev ek(sc:Scope)(env:Env)(C:Addr):List (Str×Addr):=cellsFrom (C+1) sc.names (cR env sc.names [])
noncomputable abbrev cQ(sc:Scope)(env:Env)(C:Addr):Env:=compEnvC sc (ek sc env C) C env
section
variable{sc:Scope}
theorem jh(hc:cy D n cx env)(ok:jv cx.sc sc x): ∀p∈sc.names,p.2= .free→ ∃c,env.cells.lookup p.1=some c:=fun p hp e=>by
 rcases(ok.ok p hp).2.2.2 e with q|q
 .exact hc.cs _ _ q (.inl rfl)
 .exact hc.cs _ _ q (.inr rfl)
theorem tj(hc:cy D n cx env)(ok:jv cx.sc sc x){y:Str}(hy:sc.names.lookup y=some .free):env.kindOf y=some .cell∨env.kindOf y=some .free:=by
 rcases(ok.ok _ (dR hy)).2.2.2 rfl with q|q
 .exact .inl (hc.nc _ q)
 .exact(hc.nf _ q).symm
theorem jX(hc:cy D n cx env)(ok:jv cx.sc sc x){y:Str}{c:Addr}(hy:sc.names.lookup y=some .free)(h:env.cells.lookup y=some c)(C:Addr):(ek sc env C).lookup y=some c:=by
 unfold ek
 (refine ae (cF ..) (lookup_append.trans ?_);rewrite[mj];refine Option.none_or.trans ?_)
 .exact iM ok.nd (dR hy) h
 .intro p hp e
  have:=cellsFrom_names _ _ p hp
  have:=fm ok.nd this
  rw[e,hy]at this;cases this
theorem gW(hc:cy D n cx env)(ok:jv cx.sc sc x){C:Addr}{p:Str×Addr}(hp:p∈ek sc env C):p∈cellsFrom (C+1) sc.names []∨(env.cells.lookup p.1=some p.2∧sc.names.lookup p.1=some .free):=by
 unfold ek at hp
 rw[cF]at hp
 rcases List.mem_append.mp hp with hp|hp
 .exact .inl hp
 .obtain⟨a,b⟩:=jc (jh hc ok) hp
  exact .inr ⟨b,fm ok.nd a⟩
theorem cy.comp(hc:cy D n cx env)(ok:jv cx.sc sc x){C:Addr}(hC: ∀p∈env.cells,p.2<C):cy D n { cx with sc:=sc } (cQ sc env C):=by
 have kind: ∀y,(cQ sc env C).kindOf y=(sc.names.lookup y).map fun k=>if(k== .free&&env.scope.kind== .function&&env.kindOf y==some .cell)then NameKind.cell else k:=fun y=>mh sc env y
 have plain: ∀y k,sc.names.lookup y=some k→k≠ .free→(cQ sc env C).kindOf y=some k:=fun y k h hk=>by
  refine(kind ..).trans (ae h ((Option.map_some ..).trans ?_))
  have:(k==NameKind.free)=false:=by simpa using hk
  exact ae this rfl
 refine⟨ok.kind,?_,?_,hc.cd,?_,hc.gl,hc.bu,fun y h=>plain y _ h (by decide),fun y h=>plain y _ h (by decide),fun y h=>plain y _ h (by decide),?_,?_,hc.glob,hc.bi,hc.fn,hc.pA,hc.attr⟩
 .show(ek sc env C).Pairwise _
  unfold ek
  refine ae (cF ..) ?_
  refine List.pairwise_append.mpr ⟨(eh _ _).1,tm hc.ap ok.nd (jh hc ok),fun a ha b hb=>?_⟩
  have h1:=(eh sc.names (C+1)).2 a ha
  have h2:b.2<C:=hC (b.1,b.2) (mem_lookup (jc (jh hc ok) hb).2)
  exact Nat.ne_of_gt (bT h2 (Nat.le_of_succ_le h1))
 .intro p hp
  rcases gW hc ok hp with q|⟨q,Y⟩
  .exact Nat.ne_of_gt ((eh _ _).2 p q)
  .exact dq (hC (p.1,p.2) (mem_lookup q))
 .intro y k h hk
  show ∃c,(ek sc env C).lookup y=some c
  rcases hk with rfl|rfl
  .obtain⟨c,e⟩:=ir sc.names (C+1) y (dR h)
   exact⟨c,by unfold ek;exact ae (cF ..) (lookup_append.trans (ae e rfl))⟩
  .obtain⟨c,e⟩:=jh hc ok _ (dR h) rfl
   exact⟨c,jX hc ok h e C⟩
 .intro y h
  refine ae (kind ..) (ae h (ae (Option.map_some ..) ?_))
  split
  .exact .inr rfl
  .exact .inl rfl
 .intro y k h
  obtain⟨a,b,Y⟩:=ok.ok _ (dR h)
  exact⟨by simpa using a,by simpa using b⟩
noncomputable def zd(sc:Scope)(rv:RV):RV:=fun k=>match k with
 | .v y=>if sc.names.lookup y=some .free then rv (.v y)else none
 | .a _=>none
theorem CA{k:fG}{s':Slot}(h:(k,s')∈st.inner sc): ∃y s,k= .v y∧sc.names.lookup y=some .free∧(fG.v y,s)∈st∧s.seen=some s':=by
 induction st with
 |nil=>exact jZ h
 |cons p r ih=>
  have ih (h:(k,s')∈St.inner sc r): ∃y s,k= .v y∧sc.names.lookup y=some .free∧(fG.v y,s)∈p::r∧s.seen=some s':=by
   obtain⟨y,s,a,b,c,d⟩:=ih h
   exact⟨y,s,a,b,.tail _ c,d⟩
  obtain⟨kk,s⟩:=p
  induction kk using fG.casesOn with
  |a _=>exact ih h
  |v y=>
   have h:(k,s')∈(bif decide (sc.names.lookup y=some .free)then(match s.seen with|some s=>(.v y,s)::St.inner sc r|none=>St.inner sc r)else St.inner sc r):=h
   induction q1:decide (sc.names.lookup y=some .free)using ag with
   |false=>rw[q1]at h;exact ih h
   |true=>
    rw[q1,ao]at h
    induction q2:s.seen using ab with
    |none=>rw[q2]at h;exact ih h
    |some bk=>
     rw[q2]at h
     rcases aA.mp h with e|h
     .obtain⟨e1,e2⟩:=cV e
      exact⟨y,s,e1,aj q1,.head _,e2▸q2⟩
     .exact ih h
theorem Cz(st:St):((st.inner sc).map (·.1)).Sublist (st.map (·.1)):=by
 induction st with
 |nil=>exact .slnil
 |cons p r ih=>
  obtain⟨kk,s⟩:=p
  induction kk using fG.casesOn with
  |a _=>exact ih.cons _
  |v y=>
   refine(?_:((bif decide (sc.names.lookup y=some .free)then(match s.seen with|some s=>(.v y,s)::St.inner sc r|none=>St.inner sc r)else St.inner sc r).map (·.1)).Sublist (fG.v y::r.map (·.1)))
   generalize decide (sc.names.lookup y=some .free)=b
   generalize s.seen=o
   induction b using ag with
   |false=>exact ih.cons _
   |true=>induction o using ab with
    |none=>exact ih.cons _
    |some _=>exact ih.cons_cons _
theorem d9{k:fG}{s:Slot}(h:st.get k=some s):(k,s)∈st:=by
 induction st with
 |nil=>exact nn h
 |cons p r ih=>
  obtain⟨kk,sl⟩:=p
  by_cases q:k=kk
  .exact q▸dZ (aF q) h▸ .head _
  .exact .tail _ (ih ((az q).symm.trans h))
theorem kA(hn:(st.map (·.1)).Nodup){k:fG}{s':Slot}(h:(st.inner sc).get k=some s'): ∃y s,k= .v y∧sc.names.lookup y=some .free∧st.get (.v y)=some s∧s.seen=some s':=by
 obtain⟨y,s,a,b,c,d⟩:=CA (d9 h)
 exact⟨y,s,a,b,St.get_mem hn _ _ c,d⟩
theorem jx{s s':Slot}(h:s.seen=some s'):s'.gC=false∧(s'.dX=true→s.dX=true):=by
 induction s using Slot.casesOn<;>cases h<;>exact⟨rfl,fun e=>by first|exact e|rfl⟩
noncomputable abbrev oG(W:Addr→Prop)(sc:Scope)(C:Addr):Addr→Prop:=fun a=>W a∨a=C∨ ∃p∈cellsFrom (C+1) sc.names [],a=p.2
theorem SR.comp{h dy fu:Heap}{C:Addr}(hc:cy D n cx env)(ok:jv cx.sc sc x)(S:SR D F W env me st rv h)(keep: ∀b o,h.get? b=some o→dy.get? b=some o)(hC:C=dy.objs.size){kH:Value}
 (h3:fu=pushCells (dy.push { cls:=kH,data:= .dict #[]}) sc.names):
 SR D F (oG W sc C) (cQ sc env C) none (st.inner sc) (zd sc rv) fu∧(∀b o,dy.get? b=some o→fu.get? b=some o):=by
 subst hC h3
 have fi: ∀b o,dy.get? b=some o→(pushCells (dy.push { cls:=kH,data:= .dict #[]}) sc.names).get? b=some o:=fun b o e=>pushCells_keeps _ _ _ _ (bq _ e)
 have xh: ∀b o,h.get? b=some o→(pushCells (dy.push { cls:=kH,data:= .dict #[]}) sc.names).get? b=some o:=fun b o e=>fi b o (keep b o e)
 have um: ∀a,dy.objs.size≤a→h.get? a=none:=fun a ha=>by
  induction e:h.get? a using ab with
  |none=>rfl
  |some o=>exact absurd (cr (keep a o e)) (Nat.not_lt.mpr ha)
 have cells: ∀p∈cellsFrom (dy.objs.size+1) sc.names [],(pushCells (dy.push { cls:=kH,data:= .dict #[]}) sc.names).IsCell p.2 none:=fun p hp=>pj sc.names (dy.push _) p (by exact ae (Heap.size_push ..) hp)
 have ns:(pushCells (dy.push { cls:=kH,data:= .dict #[]}) sc.names).Ns dy.objs.size fun Y=>none:=(Heap.Ns.new dy kH).keeps (pushCells_keeps _ _)
 have no: ∀a,dy.objs.size≤a→F a=none:=fun a ha=>by
  induction q:F a using ab with
  |none=>rfl
  |some o=>exact Sn ((S.fz a o q).symm.trans (um a ha))
 have Kt {y} (hy:sc.names.lookup y=some .free):zd sc rv (.v y)=rv (.v y):=aF hy
 have nG {p:Str×Addr} (hp:p∈ek sc env dy.objs.size) {P:Prop} (k1:p∈cellsFrom (dy.objs.size+1) sc.names []→P) (k2:(p.1,p.2)∈env.cells→P):P:=(gW hc ok hp).elim k1 fun q=>k2 (mem_lookup q.1)
 have ge: ∀p∈cellsFrom (dy.objs.size+1) sc.names [],dy.objs.size≤p.2:=fun p hp=>ca ((eh _ _).2 p hp)
 refine⟨⟨S.fz.trans xh,S.base,fun a w=>?_,fun a w=>?_,fun k s' e=>?_,fun k s' e hh=>?_,fun k k' s1 s2 a e1 e2 m1=>?_,fun y v e=>?_,fun y v e=>nn e,fun i C d e=>nn e,⟨.inr (.inl rfl),fun p hp=>nG hp (fun q=> .inl (.inr (.inr ⟨p,q,rfl⟩))) fun q=>(S.pw.2 _ q).imp .inl id⟩,⟨(Cz st).nodup S.ma.1,fun i C d e=>nn e⟩,fun i C d e=>nn e,⟨_,ns⟩,fun p hp=>nG hp (fun q=>⟨_,cells p q⟩) fun q=>(S.tn _ q).elim fun v hv=>⟨v,hv.keeps xh⟩⟩,fi⟩
 .rcases w with w|rfl|⟨p,hp,rfl⟩
  .exact S.wf a w
  .exact no _ (bn _)
  .exact no _ (ge p hp)
 .rcases w with w|rfl|⟨p,hp,rfl⟩
  .obtain⟨o,e⟩:=S.wx a w;exact⟨o,xh a o e⟩
  .obtain⟨o,Y,Y,e,Y⟩:=ns;exact⟨o,e⟩
  .obtain⟨o,e,Y⟩:=cells p hp;exact⟨o,e⟩
 .obtain⟨y,s,rfl,hy,hs,Aw⟩:=kA S.ma.1 e
  obtain⟨v,h1,h2⟩:=S.sl _ _ hs
  refine⟨v,(Kt hy).trans h1,?_⟩
  have h2:=h2.mono (dG.refl F) xh
  clear e hs h1
  induction s using Slot.casesOn with
  |aw=>exact b8 Aw▸h2
  |own=>exact b8 Aw▸h2
  |cK=>exact b8 Aw▸h2
  |ro=>exact b8 Aw▸h2
  |me=>exact nn Aw
 .obtain⟨y,s,rfl,hy,hs,Aw⟩:=kA S.ma.1 e
  obtain⟨a,h1,h2,h3,Y⟩:=S.held _ _ hs ((jx Aw).2 hh)
  obtain⟨o,ho⟩:=S.pB ⟨_,_,hs,(jx Aw).2 hh,h1⟩
  refine⟨a,(Kt hy).trans h1,h2,fun w=>?_,fun i C d e=>nn e⟩
  clear h1 h2 e hs
  rcases w with w|rfl|⟨p,hp,rfl⟩
  .exact h3 w
  .exact fU (um _ (bn _)) ho
  .exact fU (um _ (ge p hp)) ho
 .obtain⟨y,s,rfl,hy,hs,Aw⟩:=kA S.ma.1 e1
  exact ew ((jx Aw).1.symm.trans m1)
 .by_cases hy:sc.names.lookup y=some .free
  .have p:=(S.As y v ((Kt hy).symm.trans e)).mono xh
   obtain⟨c,h1,h2⟩:=p.2 (tj hc ok hy)
   refine⟨fun q=>?_,fun Y=>⟨c,jX hc ok hy h1 _,h2⟩⟩
   have:=(mh sc env y).symm.trans q
   rw[hy,Option.map_some]at this
   split at this<;>exact nomatch this
  .exact fU (az hy) e
end
section
theorem BZ{M:Model}{Q:Bool→Shared→Prop}(h:Q false s): ∀(ifs:List Expr),wpAny M A (forIn ifs false fun c r=>if r=true then do let ok ←isTrue c env (eval c env);pure (ForInStep.yield ok)else pure (ForInStep.yield r)) Q E s:=by
 intro l_
 induction l_ with
 |nil=>exact ae List.forIn_nil (av h)
 |cons e es ih=>
  refine ae (List.forIn_cons ..) (ae (az cA) ?_)
  exact pb ((ih))
theorem yw(hR:d4 D n R)(hc:cy D n cx env)(m:Nat)(ha:ey A n): ∀(ifs:List Expr){F:FH}{st:St}{s:Shared}{k:Bool→St→aH},Dx (fH (R cx) cx m) ifs st k=some out→SR D F W env me st rv s.heap→
 wpAny (model D.prog D.w) A (forIn ifs true fun c r=>if r=true then do let ok ←isTrue c env (eval c env);pure (ForInStep.yield ok)else pure (ForInStep.yield r)) (j6 D F W env me st rv s k out) E s:=by
 intro l_
 induction l_ with
 |nil=>
  intro F st s k h S
  refine Gx List.forIn_nil ?_
  exact av ⟨F,st,h,dU.refl ..,S⟩
 |cons e es ih=>
  intro F st s k h S
  refine Gx (List.forIn_cons ..) (ae (aF rfl) ?_)
  refine bb ((wm (mK hR hc m ha h S) ?_))
  rintro b bk ⟨bK,aR,aP,bX,bh⟩
  refine av ?_
  induction b using ag with
  |true=>
   rw[ao]at aP
   refine wm (ih aP bh) ?_
   rintro b d3 ⟨fW,eD,dy,fC,eT⟩
   exact⟨fW,eD,dy,bX.trans fC,eT⟩
  |false=>
   rw[bH]at aP
   exact BZ ⟨bK,aR,aP,bX,bh⟩ es
structure nK(D:Wd)(bj:FH)(W:Addr→Prop)(env:Env)(hb:Heap)(I Dn:Addr)(Sg:Nat→Heap→Prop)(i:Nat)(F:FH)(st:St)(rv:RV)(h:Heap):Prop where
 S:SR D F W env none st rv h
 le:dG bj F
 nw: ∀b o,F b=some o→bj b=some o∨hb.get? b=none
 kp: ∀b o,hb.get? b=some o→h.get? b=some o
 no: ∀b,¬kg st rv b
 nI: ¬dh st rv I
 nD: ¬dh st rv Dn
 fI:F I=none
 fD:F Dn=none
 aI: ∃o,h.get? I=some o
 aD: ∃o,h.get? Dn=some o
 it:Sg i h
structure zr(W:Addr→Prop)(env:Env)(hb:Heap)(bj:FH)(I Dn:Addr)(fp:List Addr)(Sg:Nat→Heap→Prop):Prop where
 ne:I≠Dn
 wI: ¬W I
 wD: ¬W Dn
 bI:hb.get? I=none
 bD:hb.get? Dn=none
 lI:I≠env.locals
 lD:Dn≠env.locals
 cI: ∀p∈env.cells,p.2≠I
 cD: ∀p∈env.cells,p.2≠Dn
 al: ∀i h,Sg i h→ ∃o,h.get? I=some o
 fp: ∀b∈fp,b=I∨ ∃o,bj b=some o
section
variable{bj:FH}{hb:Heap}{I Dn:Addr}{fp:List Addr}{eU:Nat→Heap→Prop}{P:Nat→Value→Prop}
theorem nK.ev{F':FH}{bB:St}{s':Shared}(hx:zr W env hb bj I Dn fp eU)(Wk:Walks D.prog D.w A I fp [I] ts.length P eU)(C:nK D bj W env hb I Dn eU i F st rv s.heap)(Q:dU F st rv s F' bB s')(S':SR D F' W env none bB rv s'.heap):nK D bj W env hb I Dn eU i F' bB rv s'.heap where
 S:=S'
 le:=C.le.trans Q.le
 nw:=fun b o e=>by
  rcases Q.new b o e with q|q|q
  .exact C.nw b o q
  .right
   induction z:hb.get? b using ab with
   |none=>rfl
   |some o'=>exact Sn ((C.kp b o' z).symm.trans q)
  .exact absurd q (C.no b)
 kp:=fun b o e=>Q.keep b o (C.kp b o e) (C.no b)
 no:=fun b q=>C.no b (Q.own b q)
 nI:=fun q=>C.nI (Q.held _ q)
 nD:=fun q=>C.nD (Q.held _ q)
 fI:=by
  induction z:F' I using ab with
  |none=>rfl
  |some o=>
   obtain⟨oI,hI⟩:=C.aI
   rcases Q.new I o z with q|q|q
   .exact fU C.fI q
   .exact Sn (hI.symm.trans q)
   .exact absurd q (C.no I)
 fD:=by
  induction z:F' Dn using ab with
  |none=>rfl
  |some o=>
   obtain⟨oI,hI⟩:=C.aD
   rcases Q.new Dn o z with q|q|q
   .exact fU C.fD q
   .exact Sn (hI.symm.trans q)
   .exact absurd q (C.no Dn)
 aI:=by obtain⟨o,e⟩:=C.aI;exact⟨o,Q.keep I o e (C.no I)⟩
 aD:=by obtain⟨o,e⟩:=C.aD;exact⟨o,Q.keep Dn o e (C.no Dn)⟩
 it:=Wk.frame _ _ _ C.it fun b Y o e=>Q.keep b o e (C.no b)
theorem nK.jE{h h':Heap}{j:Nat}(hx:zr W env hb bj I Dn fp eU)(C:nK D bj W env hb I Dn eU i F st rv h)(ha:a=I∨a=Dn)(hk: ∀b o,b≠a→h.get? b=some o→h'.get? b=some o)(M7: ∃o,h'.get? a=some o)(I4:eU j h'):
 nK D bj W env hb I Dn eU j F st rv h' where
 S:=by
  have Wu: ¬W a:=by clear C;rcases ha with rfl|rfl;exact hx.wI;exact hx.wD
  refine C.S.jE (G:=fun b=>b=a) (fun b o g e=>hk b o g e) ?_ ?_ (fun b Y i C d e=>(nomatch e)) ?_ ?_ fun b w=>?_
  .clear hx hk M7 Wu;rintro b rfl;rcases ha with rfl|rfl;exact C.fI;exact C.fD
  .rintro b rfl;rcases ha with rfl|rfl;exact C.nI;exact C.nD
  .clear C;rintro q;rcases ha with rfl|rfl;exact hx.lI q.symm;exact hx.lD q.symm
  .rintro p hp q;rcases ha with rfl|rfl;exact hx.cI p hp q;exact hx.cD p hp q
  .obtain⟨o,e⟩:=C.S.wx b w
   exact⟨o,hk b o (fun q=>Wu (q▸w)) e⟩
 le:=C.le
 nw:=C.nw
 kp:=fun b o e=>hk b o (fun q=>by clear C hk M7;rcases ha with rfl|rfl<;>subst q; · exact fU hx.bI e
                                  .exact fU hx.bD e) (C.kp b o e)
 no:=C.no
 nI:=C.nI
 nD:=C.nD
 fI:=C.fI
 fD:=C.fD
 aI:=by
  by_cases q:I=a
  .exact ae q M7
  .obtain⟨o,e⟩:=C.aI;exact⟨o,hk I o q e⟩
 aD:=by
  by_cases q:Dn=a
  .exact ae q M7
  .obtain⟨o,e⟩:=C.aD;exact⟨o,hk Dn o q e⟩
 it:=I4
theorem uZ{px:Pos}{ifs:List Expr}{k:Bool→St→aH}(hR:d4 D n R)(hc:cy D n cx env)(ha:ey A n)(hx:zr W env hb bj I Dn fp eU)(Wk:Walks D.prog D.w A I fp [I] ts.length (fun(i:Nat)(v:Value)=> ∃t,ts[i]? =some t∧D.VR bj t v) eU)
 (rE:env.kindOf x=some .local∨(env.kindOf x=some .cell∧ ∃c,env.cells.lookup x=some c∧W c)) (iT: ∀c,env.cells.lookup x=some c→hb.get? c=none) (NL:hb.get? env.locals=none)
 (C:nK D bj W env hb I Dn eU i F st rv s.heap) (ht:ts[i]? =some t) (h:Dx (fH (R cx) cx m) ifs (st.put (.v x) (.aw t)) k=some out) {VP VO VN:Value→Shared→Prop} {Q:Bool→Shared→Prop} {G:Option Value→Shared→Prop}
 (hG: ∀v bk,wpAny (model D.prog D.w) A (assign (.Name x px) env v) (fun Y d3=>wpAny (model D.prog D.w) A (forIn ifs true fun c r=>if r=true then do let ok ←isTrue c env (eval c env);pure (ForInStep.yield ok)else pure (ForInStep.yield r)) Q VN d3) VO bk→G (some v) bk)
 (hq: ∀ok s' F' bB fx,k ok bB=some out→dG F F'→nK D bj W env hb I Dn eU (i+1) F' bB fx s'.heap→(∀o,s.heap.get? Dn=some o→s'.heap.get? Dn=some o)→(∃h' tk,s'={ s with heap:=h',toks:=tk })→Q ok s'):
 wpAny (model D.prog D.w) A (pyNext (.ref I)) G VP s:=by
 have gG:i<ts.length:=(a8.mp ht).1
 refine Wk.item i s _ _ gG C.it ?_
 rintro v aP OX ⟨t',MY,hv⟩ Eo xp
 obtain rfl:=dZ ht MY
 have zE: ∀b o,b≠I→s.heap.get? b=some o→aP.get? b=some o:=fun b o q e=>xp b o (by simpa using q) e
 have JZ: ∃o,aP.get? I=some o:=hx.al _ _ Eo
 have nJ:=C.jE hx (.inl rfl) zE JZ Eo
 refine hG v _ ?_
 refine wpAny_assign_Name (gv (s:={ s with heap:=aP,toks:=OX }) hc.pl nJ.S rE (sl:= .aw t) (VR.mono C.le hv) ?_)
 intro dy w8 eT Y iS Y
 have PY: ∀{b},kg (st.put (.v x) (.aw t)) (rv.set (.v x) v) b→kg st rv b:=by
  rintro b ⟨k,sl,e1,e2,e3⟩
  rw[St.eP]at e1
  unfold RV.set at e3
  split at e1
  .obtain rfl:=b8 e1;exact ew e2
  .rename_i q;rw[az q]at e3;exact⟨k,sl,e1,e2,e3⟩
 have r6: ∀{b},dh (st.put (.v x) (.aw t)) (rv.set (.v x) v) b→dh st rv b:=by
  rintro b ⟨k,sl,e1,e2,e3⟩
  rw[St.eP]at e1
  unfold RV.set at e3
  split at e1
  .obtain rfl:=b8 e1;exact ew e2
  .rename_i q;rw[az q]at e3;exact⟨k,sl,e1,e2,e3⟩
 have Ws:env.cells.lookup x≠some I:=fun q=>hx.cI _ (mem_lookup q) rfl
 have Wt:env.cells.lookup x≠some Dn:=fun q=>hx.cD _ (mem_lookup q) rfl
 have La:nK D bj W env hb I Dn eU (i+1) F (st.put (.v x) (.aw t)) (rv.set (.v x) v) dy:=by
  refine⟨eT,nJ.le,nJ.nw,fun b o e=>iS b o (fun q=>by rw[q,NL]at e;exact nn e) (fun q=>by exact fU (iT b q) e) (nJ.kp b o e),fun b q=>nJ.no b (PY q),fun q=>nJ.nI (r6 q),fun q=>nJ.nD (r6 q),nJ.fI,nJ.fD,?_,?_,?_⟩
  .obtain⟨o,e⟩:=nJ.aI;exact⟨o,iS I o hx.lI Ws e⟩
  .obtain⟨o,e⟩:=nJ.aD;exact⟨o,iS Dn o hx.lD Wt e⟩
  .refine Wk.frame _ _ _ nJ.it fun b GI o e=>?_
   clear Wk C hq xp zE JZ;rcases hx.fp b GI with rfl|⟨of,hF⟩
   .exact iS _ o hx.lI Ws e
   .have e1:=nJ.S.fz b of (nJ.le b of hF)
    have e2:=eT.fz b of (nJ.le b of hF)
    obtain rfl:=dZ e e1;exact e2
 refine wm (yw (s:={ s with heap:=dy,toks:=w8 }) hR hc m ha ifs h La.S) ?_
 rintro ok jJ ⟨q8,lm,fu,ke,m6⟩
 have q9:=La.ev hx Wk ke m6
 clear m6;obtain⟨h',n9,rfl⟩:=ke.sh
 refine hq ok _ q8 lm _ fu ke.le q9 (fun o e=>?_) ⟨_,_,rfl⟩
 exact ke.keep Dn o (iS Dn o hx.lD Wt (zE Dn o (Ne.symm hx.ne) e)) (La.no Dn)
end
end
section
variable{bj:FH}{hb:Heap}{I Dn:Addr}{fp:List Addr}{eU:Nat→Heap→Prop}{P:Nat→Value→Prop}
theorem C5{prog:Program}{w:World}(ho:s.heap.get? a=some (listOf vs.toArray m))(hz:vs.length≤1000000)
 (hq: ∀h' m',h'.get? a=some (listOf (vs++[v]).toArray m')→(∀b o,b≠a→s.heap.get? b=some o→h'.get? b=some o)→Q .none { s with heap:=h' }):
 wpAny (model prog w) A (call (.builtin "list.append") [.ref a,v]) Q E s:=by
 have hT:s.TypeIs (.ref a) "list":=⟨_,ho,rfl⟩
 have NQ:=fQ
 refine call_meets PySem.F.slot_list_append hT PySem.F.entry_list_append (PySem.F.args_list_append_2 _ _) (list_append a vs.toArray m v (by simp;exact af ‹_› (aa rfl))) ⟨ho,?_⟩
 obtain⟨m',h1⟩: ∃m',(s.heap.update a (Obj.mapSeq (·.push v))).get? a=some (listOf (vs++[v]).toArray m'):=⟨_,by
  have:=Heap.get?_update_self (Obj.mapSeq (·.push v)) ho rfl
  refine this.trans ?_;simp only[Obj.mapSeq,show vs.toArray.push v=(vs++[v]).toArray by simp];rfl⟩
 exact hq _ _ h1 fun b o hb e=>(Heap.get?_update_other _ _ (Ne.symm hb)).trans e
theorem mS{α:Type}{l:List α}(h:i<l.length):l.drop i=l[i]::l.drop (i+1):=List.drop_eq_getElem_cons h
inductive Zz(D:Wd)(R:RT)(cx:Cx)(W:Addr→Prop)(env:Env)(hb:Heap)(bj:FH)(I Dn:Addr)(eU:Nat→Heap→Prop)(x:Str)(ifs:List Expr)(qV:Expr)(m:Nat)(kk:List MV→aH)(out:MV×Option MV)(ts:List MV)(s:Shared)(k:Nat)(s':Shared):Prop where
 |mk (i:Nat) (F':FH) (bB:St) (fx:RV) (us:List MV) (vs:List Value) (mm:Nat) (h0:k=ts.length+1-i) (h1:i≤ts.length) (h2: ∃h' tk,s'={ s with heap:=h',toks:=tk }) (h3:nK D bj W env hb I Dn eU i F' bB fx s'.heap) (h4:qE (R cx) (fH (R cx) cx m) x ifs qV (ts.drop i) bB us kk=some out)
  (h5:D.dm F' us vs) (h6:s'.heap.get? Dn=some (listOf vs.toArray mm)) (h7:us.length≤i)
theorem CQ{px pos:Pos}{iter:Expr}{scope:Scope}{ifs:List Expr}{qV:Expr}{kk:List MV→aH}{RR:Result→Shared→Prop}(hR:d4 D n R)(hc:cy D n cx env)(ha:ey A n)(hz:ts.length≤1000000)
 (hx:zr W env hb bj I Dn fp eU) (Wk:Walks D.prog D.w A I fp [I] ts.length (fun(i:Nat)(v:Value)=> ∃t,ts[i]? =some t∧D.VR bj t v) eU)
 (rE:env.kindOf x=some .local∨(env.kindOf x=some .cell∧ ∃c,env.cells.lookup x=some c∧W c)) (iT: ∀c,env.cells.lookup x=some c→hb.get? c=none) (NL:hb.get? env.locals=none)
 (C:nK D bj W env hb I Dn eU 0 F st rv s.heap) (hD: ∃m,s.heap.get? Dn=some (listOf ([]:List Value).toArray m)) (h:qE (R cx) (fH (R cx) cx m) x ifs qV ts st [] kk=some out)
 (pM: ∀F' bB fx h' tk us vs mm,kk us=some out→SR D F' W env none bB fx h'→dG bj F'→(∀b o,F' b=some o→bj b=some o∨hb.get? b=none)→(∀b o,hb.get? b=some o→h'.get? b=some o)→F' Dn=none→D.dm F' us vs→us.length≤ts.length→
   h'.get? Dn=some (listOf vs.toArray mm)→RR (.ok .next) { s with heap:=h',toks:=tk }):
 codeAny (model D.prog D.w) A (.compLoop (.ListComp qV [⟨.Name x px,iter,ifs,0⟩] scope pos) 0 (.ref I) (.ref Dn) env) RR s:=by
 refine codeAny_compLoop_tests
  (Zz D R cx W env hb bj I Dn eU x ifs qV m kk out ts s) ?_ (ts.length+1)
  (by obtain⟨mm,hD⟩:=hD;exact⟨0,F,st,rv,[],[],mm,rfl,Nat.zero_le _,⟨s.heap,s.toks,rfl⟩,C,h,dm.nil,hD,bn _⟩)
 clear C;rintro k s' ⟨i,F',bB,fx,us,vs,mm,rfl,hi,⟨h',tk,rfl⟩,C',hk,hv,Az,hl⟩
 by_cases gG:i<ts.length
 .rw[mS gG]at hk
  refine uZ (s:={ s with heap:=h',toks:=tk }) (px:=px) (hG:=fun v bk h=>h) hR hc ha hx Wk rE iT NL C' (aq gG) hk ?_
  .intro ok jJ q8 lm AF jo DU q9 uw DY
   clear pM C';obtain⟨fu,qu,rfl⟩:=DY
   have ut:D.dm q8 us vs:=dm.mono DU hv
   induction ok using ag with
   |false=>
    rw[bH]at jo
    refine ae (az cA) ?_
    exact⟨ts.length+1-(i+1),by exact Nn ‹_›,i+1,q8,lm,AF,us,vs,mm,rfl,gG,⟨fu,qu,rfl⟩,q9,jo,ut,uw _ Az,by exact Nat.le_succ_of_le ‹_›⟩
   |true=>
    rw[ao]at jo
    refine ae (aF rfl) ?_
    refine wm (hR.aw (s:={ s with heap:=fu,toks:=qu }) jo ha hc q9.S) ?_
    rintro NY vw ⟨Ho,u,AB,AM,q7,pQ,DX⟩
    have vG:=q9.ev hx Wk q7 pQ
    clear pQ;obtain⟨lK,rH,rfl⟩:=q7.sh
    have JL:lK.get? Dn=some (listOf vs.toArray mm):=q7.keep Dn _ (uw _ Az) (q9.no Dn)
    have Z8:vs.length=us.length:=dm.length hv
    refine C5 (s:={ s with heap:=lK,toks:=rH }) JL (by lia) fun ly T9 uv qC=>?_
    refine⟨ts.length+1-(i+1),by exact Nn ‹_›,i+1,Ho,AB,AF,us++[u],vs++[NY],T9,rfl,gG,⟨ly,rH,rfl⟩,?_,AM,dm.append (dm.mono q7.le ut) (dm.cons DX dm.nil),uv,by simp;assumption⟩
    refine vG.jE hx (.inr rfl) qC ⟨_,uv⟩ (Wk.frame _ _ _ vG.it fun b GI o e=>?_)
    refine qC b o (fun q=>?_) e
    clear hD Az q9 uw JL uv qC;subst q
    rcases hx.fp _ GI with q|⟨of,q⟩
    .exact hx.ne q.symm
    .have:=vG.fD
     exact Sn ((vG.le _ _ q).symm.trans this)
 .have e:i=ts.length:=by exact IM ‹_› ‹_›
  clear hi gG;subst e
  rw[List.drop_length]at hk
  refine Wk.done _ _ _ C'.it fun dy w8 iS=>?_
  have jt: ∀b o,b≠I→h'.get? b=some o→dy.get? b=some o:=fun b o q e=>iS b o (by simpa using q) e
  refine pM F' bB fx dy w8 us vs mm hk ?_ C'.le C'.nw (fun b o e=>jt b o (fun q=>by rw[q,hx.bI]at e;exact nn e) (C'.kp b o e)) C'.fD hv hl (jt Dn _ (Ne.symm hx.ne) Az)
  refine C'.S.jE (G:=fun b=>b=I) (fun b o g e=>jt b o g e) ?_ ?_ (fun b Y i C d e=>(nomatch e)) (fun q=>hx.lI q.symm) (fun p hp q=>hx.cI p hp q) fun b w=>?_
  .clear hx Wk iS jt;rintro b rfl;exact C'.fI
  .rintro b rfl;exact C'.nI
  .obtain⟨o,e⟩:=C'.S.wx b w
   exact⟨o,jt b o (fun q=>hx.wI (q▸w)) e⟩
end
section
structure i8(D:Wd)(F:FH)(W:Addr→Prop)(env:Env)(me:Me)(st:St)(rv:RV)(s:Shared)(acc:Value)(u:MV)(C:Addr)(s':Shared):Prop where
 fin: ∃F',SR D F' W env me st rv s'.heap∧dU F st rv s F' st s'∧qW D F' W st rv me s'.heap u acc∧F' C=none
 fresh: ∀a,acc= .ref a→s.heap.get? a=none∧a≠C
 ns: ∃m,s'.heap.Ns C m
 cw: ¬W C
 cn:s.heap.get? C=none
structure EV(D:Wd)(A:Around)(F:FH)(W:Addr→Prop)(env:Env)(me:Me)(st:St)(rv:RV)(s:Shared)(sc:Scope)(x:Str)(ts:List MV)(oA:Obj)(I Dn C:Addr)(fp:List Addr)(Sg:Nat→Heap→Prop)(fu:Heap):Prop where
 fix:zr (oG W sc C) (cQ sc env C) s.heap F I Dn fp Sg
 wk:Walks D.prog D.w A I fp [I] ts.length (fun(i:Nat)(v:Value)=> ∃t,ts[i]? =some t∧D.VR F t v) Sg
 loc:(cQ sc env C).kindOf x=some .local∨((cQ sc env C).kindOf x=some .cell∧ ∃c,(cQ sc env C).cells.lookup x=some c∧oG W sc C c)
 cell: ∀c,(cQ sc env C).cells.lookup x=some c→s.heap.get? c=none
 bl:s.heap.get? (cQ sc env C).locals=none
 inv:nK D F (oG W sc C) (cQ sc env C) s.heap I Dn Sg 0 F (st.inner sc) (zd sc rv) fu
 acc:fu.get? Dn=some oA
 cells: ∀p∈env.cells,p.2<C
 fin: ∀F' bB fx h' tk u,SR D F' (oG W sc C) (cQ sc env C) none bB fx h'→dG F F'→(∀b o,F' b=some o→F b=some o∨s.heap.get? b=none)→(∀b o,s.heap.get? b=some o→h'.get? b=some o)→F' Dn=none→
  D.f0 F' h'.get? u (.ref Dn)→j3 h' (.ref Dn)→fS u=true→i8 D F W env me st rv s (.ref Dn) u C { s with heap:=h',toks:=tk }
theorem sW{scope:Scope}{c:MV}{xv:Value}{El:Sem Value}{oA:Obj}{RR:Value→Addr→Result→Shared→Prop}(hc:cy D n cx env)(ha:ey A n)
 (ok:jv cx.sc scope x) (S:SR D F W env me st rv s.heap) (hi:d7 c=some ts) (hz:ts.length≤1000000) (hv:D.VR F c xv) (Th:oA.isFreed=false)
 (wV: ∀(s:Shared)(Q:Value→Shared→Prop),Q (.ref s.heap.objs.size) { s with heap:=s.heap.push oA }→wpAny (model D.prog D.w) A El Q E s)
 (start: ∀(I Dn C:Addr)(jJ:Shared),codeAny (model D.prog D.w) A (.compLoop e 0 (.ref I) (.ref Dn) (cQ scope env C)) (RR (.ref Dn) C) jJ→
   (∀E',wpAny (model D.prog D.w) A (pyIter (.ref I)) (fun RU s'=>codeAny (model D.prog D.w) A (.compLoop e 0 RU (.ref Dn) (cQ scope env C)) (RR (.ref Dn) C) s') E' jJ)→codeAny (model D.prog D.w) A (.compStart e 0 (.ref I) (.ref Dn) (cQ scope env C)) (RR (.ref Dn) C) jJ)
 (Uv: ∀I Dn C fp Sg fu,EV D A F W env me st rv s scope x ts oA I Dn C fp Sg fu→codeAny (model D.prog D.w) A (.compLoop e 0 (.ref I) (.ref Dn) (cQ scope env C)) (RR (.ref Dn) C) { s with heap:=fu }):
 wpAny (model D.prog D.w) A (pyIter xv) (fun it d3=>wpAny (model D.prog D.w) A El (fun acc jJ=>wpAny (model D.prog D.w) A (newFunctionEnv scope env.globals (cR env scope.names []) [] env.qual none .none (some env)) (fun w5 vw=>
  codeAny (model D.prog D.w) A (.compStart e 0 it acc { w5 with scope:=relabel scope env }) (RR acc w5.locals) vw) E jJ) E d3) E s:=by
 refine sO ha S hi hz hv ?_
 intro I aP fp Sg fI Bb G1 GG Wk xi
 refine wV _ _ ?_
 refine v6 ?_
 refine Gx List.forIn_nil ?_
 refine av ?_
 dsimp only
 generalize NM:aP.push oA=H2
 have z2:H2.objs.size=aP.objs.size+1:=by exact ft NM ((Heap.size_push ..))
 have up: ∀b o,s.heap.get? b=some o→H2.get? b=some o:=fun b o e=>NM▸bq _ (Bb b o e)
 have WV:H2.get? aP.objs.size=some oA:=by exact ft NM (bt _ Th)
 obtain⟨oI,hI⟩:=G1 _ _ xi
 have WS:I<aP.objs.size:=cr hI
 have old: ∀{b o},s.heap.get? b=some o→b<aP.objs.size:=fun e=>cr (Bb _ _ e)
 have oD: ∀b,aP.objs.size≤b→s.heap.get? b=none:=fun b hb=>by
  induction e:s.heap.get? b using ab with
  |none=>rfl
  |some o=>exact absurd (old e) (Nat.not_lt.mpr hb)
 have EL: ∀p∈env.cells,p.2<H2.objs.size:=fun p hp=>by
  obtain⟨v,o,e,Y⟩:=S.tn p hp
  exact ae z2 (Nat.lt_succ_of_lt (old e))
 have BC:=hc.comp ok EL
 obtain⟨S',nj⟩:=SR.comp (C:=H2.objs.size) (kH:= .type "dict") hc ok S up rfl rfl
 have GA: ∀b,s.heap.get? b=none→F b=none:=fun b e=>(S.fresh e).1
 have Wp: ∀b,s.heap.get? b=none→ ¬W b:=fun b e=>(S.fresh e).2.1
 have Kw: ∀p∈cellsFrom (H2.objs.size+1) scope.names [],H2.objs.size<p.2:=fun p hp=>(eh _ _).2 p hp
 have small: ∀b,b<H2.objs.size→s.heap.get? b=none→ ¬oG W scope H2.objs.size b:=by
  rintro b hb e (w|rfl|⟨p,hp,rfl⟩)
  .exact Wp b e w
  .exact Nat.lt_irrefl _ hb
  .exact absurd hb (Nat.not_lt.mpr (ca (Kw p hp)))
 have zk:aP.objs.size<H2.objs.size:=by exact ae z2 (Nat.lt_succ_self _)
 have Ts:I<H2.objs.size:=Nat.lt_trans WS zk
 have Bk: ∀b,b<H2.objs.size→s.heap.get? b=none→ ∀p∈ek scope env H2.objs.size,p.2≠b:=by
  intro b hb e p hp q
  rcases gW hc ok hp with z|⟨z,Y⟩
  .exact absurd hb (Nat.not_lt.mpr (ca (q▸Kw p z)))
  .obtain⟨v,o,e',Y⟩:=S.tn _ (mem_lookup z)
   try dsimp only at e'
   rw[q,e]at e';exact nn e'
 have fix:zr (oG W scope H2.objs.size) (cQ scope env H2.objs.size) s.heap F I aP.objs.size fp Sg:=by
  refine⟨dq WS,small I Ts fI,small _ zk (oD _ (bn _)),fI,oD _ (bn _),dq Ts,dq zk,Bk I Ts fI,Bk _ zk (oD _ (bn _)),G1,GG⟩
 have r6: ∀b,s.heap.get? b=none→ ¬dh (st.inner scope) (zd scope rv) b:=by
  rintro b e ⟨k,s',e1,e2,e3⟩
  obtain⟨y,sl,rfl,hy,hs,Aw⟩:=kA S.ma.1 e1
  simp only[zd,hy,if_true]at e3
  exact(S.fresh e).2.2.1 ⟨_,_,hs,(jx Aw).2 e2,e3⟩
 have jO: ∀b,¬kg (st.inner scope) (zd scope rv) b:=by
  rintro b ⟨k,s',e1,e2,Y⟩
  obtain⟨y,sl,rfl,hy,hs,Aw⟩:=kA S.ma.1 e1
  rw[(jx Aw).1]at e2;exact ew e2
 have C0:nK D F (oG W scope H2.objs.size) (cQ scope env H2.objs.size) s.heap I aP.objs.size Sg 0 F (st.inner scope) (zd scope rv) (pushCells (H2.push { cls:= .type "dict",data:= .dict #[]}) scope.names):=by
  refine⟨S',dG.refl F,fun b o e=> .inl e,fun b o e=>nj b o (up b o e),jO,r6 I fI,r6 _ (oD _ (bn _)),GA I fI,GA _ (oD _ (bn _)),⟨oI,nj _ _ (NM▸bq _ hI)⟩,⟨_,nj _ _ WV⟩,?_⟩
  refine Wk.frame _ _ _ xi fun b Y o e=>nj b o (NM▸bq _ e)
 have rE:(cQ scope env H2.objs.size).kindOf x=some .local∨((cQ scope env H2.objs.size).kindOf x=some .cell∧ ∃c,(cQ scope env H2.objs.size).cells.lookup x=some c∧oG W scope H2.objs.size c):=by
  rcases ok.hx with q|q
  .exact .inl (BC.nl x q)
  .refine .inr ⟨BC.nc x q,?_⟩
   obtain⟨c,e⟩:=ir scope.names (H2.objs.size+1) x (dR q)
   refine⟨c,?_,.inr (.inr ⟨(x,c),mem_lookup e,rfl⟩)⟩
   refine(?_:(ek scope env H2.objs.size).lookup x=some c)
   unfold ek;exact ae (cF ..) (lookup_append.trans (ae e rfl))
 have iT: ∀c,(cQ scope env H2.objs.size).cells.lookup x=some c→s.heap.get? c=none:=by
  intro c e
  rcases gW hc ok (mem_lookup e)with z|⟨Y,z⟩
  .exact oD c (ca (Nat.lt_trans zk (Kw _ z)))
  .try dsimp only at z
   rcases ok.hx with q|q<;>(rw[z]at q;cases q)
 have Tu:s.heap.get? H2.objs.size=none:=oD _ (ca zk)
 have go:EV D A F W env me st rv s scope x ts oA I aP.objs.size H2.objs.size fp Sg (pushCells (H2.push { cls:= .type "dict",data:= .dict #[]}) scope.names):=by
  refine⟨fix,Wk,rE,iT,Tu,C0,nj _ _ WV,EL,?_⟩
  intro F' bB fx h' tk u bh le nw kp fD iG Y9 NK
  refine⟨⟨F',?_,?_,?_,bh.wf _ (.inr (.inl rfl))⟩,?_,bh.Bt,Wp _ Tu,Tu⟩
  .refine(S.ext kp).grow le bh.fz ?_
   intro b o e
   rcases nw b o e with q|q
   .exact .inl q
   .exact .inr ⟨(S.fresh q).2.1,(S.fresh q).2.2.1,(S.fresh q).2.2.2⟩
  .refine⟨⟨h',tk,rfl⟩,le,fun b o e=>(nw b o e).imp id .inl,fun b o e Y=>kp b o e,fun b q=>q,fun b q=>q,fun b e=>?_,eY.refl st,rfl⟩
   induction e':s.heap.get? b using ab with
   |none=>exact absurd e' e
   |some o=>refine(?_:h'.get? b≠none);exact ae (kp b o e') (fun z=>nomatch z)
  .have fr:=S.fresh (oD aP.objs.size (bn _))
   exact⟨⟨_,rfl,fD,fr.2.1,fr.2.2.1,fr.2.2.2⟩,iG,Y9,NK⟩
  .intro a e;obtain rfl:=eM e
   exact⟨oD _ (bn _),dq zk⟩
 have main:=Uv I aP.objs.size H2.objs.size fp Sg _ go
 refine start I aP.objs.size H2.objs.size _ main fun E'=>?_
 exact Wk.self 0 _ _ _ C0.it main
theorem CR{px pos:Pos}{iter:Expr}{scope:Scope}{ifs:List Expr}{qV:Expr}{kk:List MV→aH}{c:MV}{xv:Value}{use:Option (Value→Sem Unit)}(hR:d4 D n R)(hc:cy D n cx env)(ha:ey A n)
 (ok:jv cx.sc scope x) (S:SR D F W env me st rv s.heap) (hi:d7 c=some ts) (hz:ts.length≤1000000) (hv:D.VR F c xv)
 (h:qE (R { cx with sc:=scope }) (fH (R { cx with sc:=scope }) { cx with sc:=scope } m) x ifs qV ts (st.inner scope) [] kk=some out)
 (pM: ∀us acc C s',kk us=some out→i8 D F W env me st rv s acc (.list us) C s'→compPost (model D.prog D.w) A E use Q acc C (.ok .next) s'):
 wpAny (model D.prog D.w) A (pyIter xv) (fun it d3=>wpAny (model D.prog D.w) A (newList []) (fun acc jJ=>wpAny (model D.prog D.w) A (newFunctionEnv scope env.globals (cR env scope.names []) [] env.qual none .none (some env)) (fun w5 vw=>
  codeAny (model D.prog D.w) A (.compStart (.ListComp qV [⟨.Name x px,iter,ifs,0⟩] scope pos) 0 it acc { w5 with scope:=relabel scope env }) (compPost (model D.prog D.w) A E use Q acc w5.locals) vw) E jJ) E d3) E s:=by
 refine sW (oA:=listOf ([]:List Value).toArray 0) (RR:=fun acc C=>compPost (model D.prog D.w) A E use Q acc C) hc ha ok S hi hz hv rfl (fun s Q h=>wpAny_newObj_type h) (fun I Dn C jJ h1 h2=>codeAny_compStart_list h1 (h2 _)) ?_
 intro I Dn C fp Sg fu go
 refine CQ (env:=cQ scope env C) (cx:={ cx with sc:=scope }) (s:={ s with heap:=fu }) hR (hc.comp ok go.cells) ha hz go.fix go.wk go.loc go.cell go.bl go.inv ⟨0,go.acc⟩ h ?_
 intro F' bB fx h' tk us vs mm hk bh le nw kp fD gD hl Az
 have Kd:vs.length=us.length:=gD.length
 exact pM us _ _ _ hk (go.fin F' bB fx h' tk _ bh le nw kp fD ⟨vs,⟨_,mm,rfl,Az,by lia⟩,gD⟩ (fun b e=>by obtain rfl:=eM e;exact⟨_,Az,rfl⟩) rfl)
end
section
variable{bj:FH}{hb:Heap}{I Dn:Addr}{fp:List Addr}{eU:Nat→Heap→Prop}{P:Nat→Value→Prop}
theorem zR{p:Int×Value}{r:List (Int×Value)}{k:Int}(e:k=p.1)(hn:((p::r).map (·.1)).Nodup):stored (p::r) k v=(k,v)::r:=by
 subst e
 rw[bv,bC]at hn
 exact(aF (by simp)).trans (bv.trans (ae (aF rfl) (ae (map_store_of_not_mem r p.1 v hn.1) rfl)))
theorem yA{p:Int×Value}{r:List (Int×Value)}{k:Int}(e:k≠p.1):stored (p::r) k v=p::stored r k v:=by
 unfold stored
 have e': ¬p.1=k:=fun q=>e q.symm
 simp only[bO,cz e',Bool.false_or,bv,az e']
 split<;>rfl
theorem qJ{k:Int}(ht:D.VR F t v): ∀{gt:List (Int×Value)}{us:List MV},(gt.map (·.1)).Nodup→D.dm F us (gt.map (·.2))→
 (stored gt k v).map (·.1)=(gZ (gt.map (·.1)) us k t).1∧D.dm F (gZ (gt.map (·.1)) us k t).2 ((stored gt k v).map (·.2)):=by
 intro gt
 induction gt with
 |nil=>
  intro us _ h
  obtain rfl:us=[]:=bM.mp h.length.symm
  exact⟨rfl,.cons ht .nil⟩
 |cons p r ih=>
  intro us hn h
  induction us using aO with
  |nil=>exact nomatch h.none
  |cons u us=>
   obtain⟨w,ws,e,h1,h2⟩:=dm.lh h
   obtain⟨rfl,rfl⟩:=List.cons.inj (e:p.2::r.map (·.2)=w::ws)
   clear h e
   by_cases q:k=p.1
   .refine ae (zR q hn) ?_
    rw[show gZ ((p::r).map (·.1)) (u::us) k t=_ from aF q]
    exact⟨aB (List.cons · _) q,.cons ht h2⟩
   .refine ae (yA q) ?_
    obtain⟨i1,i2⟩:=ih (bC.mp hn).2 h2
    rw[show gZ ((p::r).map (·.1)) (u::us) k t=_ from az q]
    exact⟨aB (List.cons p.1) i1,.cons h1 i2⟩
theorem Iy{d:Addr}{gt:List (Int×Value)}{k:Int}{t:Tok}(ho:s.heap.get? d=some o)(hd:o.IsDictOf (intKind D.prog D.w) gt)(hz:gt.length≤1000000){Q:Unit→Shared→Prop}
 (hq: ∀h' tk o',h'.get? d=some o'→o'.IsDictOf (intKind D.prog D.w) (stored gt k v)→(∀b o,b≠d→s.heap.get? b=some o→h'.get? b=some o)→Q () { s with heap:=h',toks:=tk }):
 wpAny (model D.prog D.w) A (dictSet d (.int k t) v) Q E s:=by
 have NQ:=fQ
 refine wpAny_dictSet_pairs (hsz:=by exact af ‹_› (aa rfl)) (knd:=intKind D.prog D.w) (intKind_is _ _ _ _) (Heap.dictOf_iff.mpr ⟨o,ho,hd⟩) fun h' lF hs=>?_
 obtain⟨o',tw,Hf⟩:=Heap.dictOf_iff.mp lF
 exact hq h' _ o' tw Hf fun b o hb e=>(hs.2 b hb).trans e
inductive ZA(D:Wd)(R:RT)(cx:Cx)(W:Addr→Prop)(env:Env)(hb:Heap)(bj:FH)(I Dn:Addr)(eU:Nat→Heap→Prop)(x:Str)(kx vx:Expr)(kk:Nat→List Int→List MV→aH)(out:MV×Option MV)(ts:List MV)(s:Shared)(k:Nat)(s':Shared):Prop where
 |mk (i:Nat) (F':FH) (bB:St) (fx:RV) (us:List MV) (gt:List (Int×Value)) (o:Obj) (nn:Nat) (h0:k=ts.length+1-i) (h1:i≤ts.length) (h2: ∃h' tk,s'={ s with heap:=h',toks:=tk }) (h3:nK D bj W env hb I Dn eU i F' bB fx s'.heap) (h4:nP (R cx) x kx vx (ts.drop i) bB nn (gt.map (·.1)) us kk=some out)
  (h5:D.dm F' us (gt.map (·.2))) (h6:s'.heap.get? Dn=some o) (h7:o.IsDictOf (intKind D.prog D.w) gt) (h8:gt.length≤nn) (h9:nn≤i)
theorem Ah{px pos:Pos}{iter:Expr}{scope:Scope}{kx vx:Expr}{kk:Nat→List Int→List MV→aH}{RR:Result→Shared→Prop}(hR:d4 D n R)(hc:cy D n cx env)(ha:ey A n)(hz:ts.length≤1000000)
 (hx:zr W env hb bj I Dn fp eU) (Wk:Walks D.prog D.w A I fp [I] ts.length (fun(i:Nat)(v:Value)=> ∃t,ts[i]? =some t∧D.VR bj t v) eU)
 (rE:env.kindOf x=some .local∨(env.kindOf x=some .cell∧ ∃c,env.cells.lookup x=some c∧W c)) (iT: ∀c,env.cells.lookup x=some c→hb.get? c=none) (NL:hb.get? env.locals=none)
 (C:nK D bj W env hb I Dn eU 0 F st rv s.heap) (hD: ∃o,s.heap.get? Dn=some o∧o.IsDictOf (intKind D.prog D.w) []) (h:nP (R cx) x kx vx ts st 0 [] [] kk=some out)
 (pM: ∀F' bB fx h' tk nn us gt o,kk nn (gt.map (·.1)) us=some out→SR D F' W env none bB fx h'→dG bj F'→(∀b o,F' b=some o→bj b=some o∨hb.get? b=none)→(∀b o,hb.get? b=some o→h'.get? b=some o)→F' Dn=none→
   D.dm F' us (gt.map (·.2))→gt.length≤nn→h'.get? Dn=some o→o.IsDictOf (intKind D.prog D.w) gt→RR (.ok .next) { s with heap:=h',toks:=tk }):
 codeAny (model D.prog D.w) A (.compLoop (.DictComp kx vx [⟨.Name x px,iter,[],0⟩] scope pos) 0 (.ref I) (.ref Dn) env) RR s:=by
 refine codeAny_compLoop_testsD
  (ZA D R cx W env hb bj I Dn eU x kx vx kk out ts s) ?_ (ts.length+1)
  (by obtain⟨o,hD,hd⟩:=hD;exact⟨0,F,st,rv,[],[],o,0,rfl,Nat.zero_le _,⟨s.heap,s.toks,rfl⟩,C,h,dm.nil,hD,hd,bn _,bn _⟩)
 clear C;rintro k s' ⟨i,F',bB,fx,us,gt,o,nn,rfl,hi,⟨h',tk,rfl⟩,C',hk,hv,Az,lF,hl,YG⟩
 by_cases gG:i<ts.length
 .rw[mS gG]at hk
  have M2:Dx (fH (R cx) cx 0) [] (bB.put (.v x) (.aw ts[i])) (fun b st=>bif b then(R cx kx st fun Y kt st=>R cx vx st fun Y u st=>match kt with
   | .int j=>bif aQ nn then nP (R cx) x kx vx (ts.drop (i+1)) st (nn+1) (gZ (gt.map (·.1)) us j u).1 (gZ (gt.map (·.1)) us j u).2 kk else none
   |_=>none)else none)=some out:=hk
  refine uZ (s:={ s with heap:=h',toks:=tk }) (px:=px) (hG:=fun v bk h=>h) hR hc ha hx Wk rE iT NL C' (aq gG) M2 ?_
  intro ok jJ q8 lm AF jo DU q9 uw DY
  clear pM C';obtain⟨fu,qu,rfl⟩:=DY
  have ut:D.dm q8 us (gt.map (·.2)):=dm.mono DU hv
  induction ok using ag with
  |false=>rw[bH]at jo;cases jo
  |true=>
   rw[ao]at jo
   refine ae (aF rfl) ?_
   refine wm (hR.aw (s:={ s with heap:=fu,toks:=qu }) jo ha hc q9.S) ?_
   rintro NY vw ⟨Ho,kt,AB,AM,q7,pQ,DX⟩
   have vG:=q9.ev hx Wk q7 pQ
   clear pQ;obtain⟨lK,rH,rfl⟩:=q7.sh
   refine wm (hR.aw (s:={ s with heap:=lK,toks:=rH }) AM ha hc vG.S) ?_
   clear AM;rintro NX N2 ⟨BS,u,xb,qC,Hm,Hl,Qz⟩
   have Hp:=vG.ev hx Wk Hm Hl
   clear Hl;obtain⟨ly,OW,rfl⟩:=Hm.sh
   have uv:ly.get? Dn=some o:=Hm.keep Dn _ (q7.keep Dn _ (uw _ Az) (q9.no Dn)) (vG.no Dn)
   obtain⟨j,rfl,UT⟩:=dE qC
   .clear Az q9 uw vG qC;obtain⟨Wz,qC⟩:=aJ UT
    have Wz:=aj Wz
    obtain⟨t,rfl⟩:=gj (D:=D) DX
    refine Iy (s:={ s with heap:=ly,toks:=OW }) uv lF (by exact af ‹_› ‹_›) fun UD OV T2 D1 QM D2=>?_
    clear uv;obtain⟨e1,e2⟩:=qJ (k:=j) Qz lF.choose_spec.choose_spec.2.2.2.2 (dm.mono (q7.le.trans Hm.le) ut)
    have mz:=stored_length_le gt j NX
    refine⟨ts.length+1-(i+1),by exact Nn ‹_›,i+1,BS,xb,AF,_,stored gt j NX,T2,nn+1,rfl,gG,⟨UD,OV,rfl⟩,?_,by refine ae e1 ?_;exact qC,e2,D1,QM,by lia,by exact Nat.lt_succ_of_le ‹_›⟩
    refine Hp.jE hx (.inr rfl) D2 ⟨_,D1⟩ (Wk.frame _ _ _ Hp.it fun b GI o e=>?_)
    refine D2 b o (fun q=>?_) e
    clear hD D1 D2;subst q
    rcases hx.fp _ GI with q|⟨of,q⟩
    .exact hx.ne q.symm
    .have:=Hp.fD
     exact Sn ((Hp.le _ _ q).symm.trans this)
 .have e:i=ts.length:=by exact IM ‹_› ‹_›
  clear hi YG gG;subst e
  rw[List.drop_length]at hk
  refine Wk.done _ _ _ C'.it fun dy w8 iS=>?_
  have jt: ∀b o,b≠I→h'.get? b=some o→dy.get? b=some o:=fun b o q e=>iS b o (by simpa using q) e
  refine pM F' bB fx dy w8 nn us gt o hk ?_ C'.le C'.nw (fun b o e=>jt b o (fun q=>by rw[q,hx.bI]at e;cases e) (C'.kp b o e)) C'.fD hv hl (jt Dn _ (Ne.symm hx.ne) Az) lF
  refine C'.S.jE (G:=fun b=>b=I) (fun b o g e=>jt b o g e) ?_ ?_ (fun b Y i C d e=>(nomatch e)) (fun q=>hx.lI q.symm) (fun p hp q=>hx.cI p hp q) fun b w=>?_
  .clear hx Wk iS jt;rintro b rfl;exact C'.fI
  .rintro b rfl;exact C'.nI
  .obtain⟨o,e⟩:=C'.S.wx b w
   exact⟨o,jt b o (fun q=>hx.wI (q▸w)) e⟩
theorem CS{px pos:Pos}{iter:Expr}{scope:Scope}{kx vx:Expr}{kk:Nat→List Int→List MV→aH}{c:MV}{xv:Value}{use:Option (Value→Sem Unit)}(hR:d4 D n R)(hc:cy D n cx env)(ha:ey A n)
 (ok:jv cx.sc scope x) (S:SR D F W env me st rv s.heap) (hi:d7 c=some ts) (hz:ts.length≤1000000) (hv:D.VR F c xv)
 (h:nP (R { cx with sc:=scope }) x kx vx ts (st.inner scope) 0 [] [] kk=some out)
 (pM: ∀nn ks us acc C s',kk nn ks us=some out→i8 D F W env me st rv s acc (.dict nn ks us) C s'→compPost (model D.prog D.w) A E use Q acc C (.ok .next) s'):
 wpAny (model D.prog D.w) A (pyIter xv) (fun it d3=>wpAny (model D.prog D.w) A newDict (fun acc jJ=>wpAny (model D.prog D.w) A (newFunctionEnv scope env.globals (cR env scope.names []) [] env.qual none .none (some env)) (fun w5 vw=>
  codeAny (model D.prog D.w) A (.compStart (.DictComp kx vx [⟨.Name x px,iter,[],0⟩] scope pos) 0 it acc { w5 with scope:=relabel scope env }) (compPost (model D.prog D.w) A E use Q acc w5.locals) vw) E jJ) E d3) E s:=by
 have KJ: ∀h:Heap,∃o,(h.push { cls:= .type "dict",dict:=none,data:= .dict #[]}).get? h.objs.size=some o∧o.IsDictOf (intKind D.prog D.w) []:=fun h=>Heap.dictOf_iff.mp (Heap.DictOf.new (knd:=intKind D.prog D.w) h)
 have GH:Obj.IsDictOf (intKind D.prog D.w) { cls:= .type "dict",dict:=none,data:= .dict #[]} []:=by
  obtain⟨o,ho,hd⟩:=KJ s.heap
  obtain rfl:=dZ (bt _ rfl) ho;exact hd
 refine sW (oA:={ cls:= .type "dict",dict:=none,data:= .dict #[]}) (RR:=fun acc C=>compPost (model D.prog D.w) A E use Q acc C) hc ha ok S hi hz hv rfl (fun s Q h=>wpAny_newObj_type h) (fun I Dn C jJ h1 h2=>codeAny_compStart_dict h1 (h2 _)) ?_
 intro I Dn C fp Sg fu go
 refine Ah (env:=cQ scope env C) (cx:={ cx with sc:=scope }) (s:={ s with heap:=fu }) hR (hc.comp ok go.cells) ha hz go.fix go.wk go.loc go.cell go.bl go.inv ⟨_,go.acc,GH⟩ h ?_
 intro F' bB fx h' tk nn us gt o hk bh le nw kp fD gD hl Az lF
 exact pM nn _ us _ _ _ hk (go.fin F' bB fx h' tk _ bh le nw kp fD ⟨_,⟨Dn,o,gt,rfl,Az,lF,rfl,rfl,hl⟩,gD⟩ (fun b e=>by obtain rfl:=eM e;exact⟨_,Az,lF.choose_spec.choose_spec.1.2.1⟩) rfl)
end
section
theorem k6{iter:Expr}(h:hU iter=true)(x:Value):foldedSetIterable iter env x=pure x:=by
 induction iter using Expr.casesOn<;>first|rfl|exact ew h
theorem sV{m9 scope:Scope}(ok:jv m9 scope x): ∀y∈scope.names,y.2= .local→scope.names.lookup y.1=some .local:=fun y hy e=>fm ok.nd (by exact ft e hy)
theorem pc{px pos p:Pos}{iter:Expr}{scope:Scope}{ifs:List Expr}{qV:Expr}{use:Option (Value→Sem Unit)}(hR:d4 D n R)(hc:cy D n cx env)(ha:ey A n)(S:SR D F W env me st rv s.heap)
 (h:(bif hU iter&&pT cx.sc scope x then(R cx iter st fun Y it st=>(d7 it).bind fun ts=>bif aQ ts.length then qE (R { cx with sc:=scope }) (fH (R { cx with sc:=scope }) { cx with sc:=scope } m) x ifs qV ts (st.inner scope) [] fun us=>k true (.list us) st else none)else none)=some out)
 (pM: ∀us acc C bk s' bK aR,k true (.list us) aR=some out→dU F st rv s bK aR bk→SR D bK W env me aR rv bk.heap→i8 D bK W env me aR rv bk acc (.list us) C s'→compPost (model D.prog D.w) A E use Q acc C (.ok .next) s'):
 wpAny (model D.prog D.w) A (comprehension (.ListComp qV [⟨.Name x px,iter,ifs,0⟩] scope pos) scope env p (newList []) false (eval iter env) use) Q E s:=by
 obtain⟨gE,h⟩:=aJ h
 obtain⟨gE,ok⟩:=au.mp gE
 have ok:=sX ok
 refine wpAny_comprehension_free (use:=use) rfl (k6 gE) (j8 (jh hc ok)) ok.kind (sV ok) (wm (hR.aw h ha hc S) ?_)
 clear h
 rintro xv bk ⟨bK,c,aR,aP,bX,bh,hv⟩
 obtain⟨ts,hi,aP⟩:=cL aP
 obtain⟨hq,aP⟩:=aJ aP
 exact CR hR hc ha ok bh hi (aj hq) hv aP fun us acc C s' hk ce=>pM us acc C bk s' bK aR hk bX bh ce
theorem pi{px pos p:Pos}{iter:Expr}{scope:Scope}{kx vx:Expr}{use:Option (Value→Sem Unit)}(hR:d4 D n R)(hc:cy D n cx env)(ha:ey A n)(S:SR D F W env me st rv s.heap)
 (h:(bif hU iter&&pT cx.sc scope x then(R cx iter st fun Y it st=>(d7 it).bind fun ts=>bif aQ ts.length then nP (R { cx with sc:=scope }) x kx vx ts (st.inner scope) 0 [] [] fun m ks us=>k true (.dict m ks us) st else none)else none)=some out)
 (pM: ∀nn ks us acc C bk s' bK aR,k true (.dict nn ks us) aR=some out→dU F st rv s bK aR bk→SR D bK W env me aR rv bk.heap→i8 D bK W env me aR rv bk acc (.dict nn ks us) C s'→compPost (model D.prog D.w) A E use Q acc C (.ok .next) s'):
 wpAny (model D.prog D.w) A (comprehension (.DictComp kx vx [⟨.Name x px,iter,[],0⟩] scope pos) scope env p newDict false (eval iter env) use) Q E s:=by
 obtain⟨gE,h⟩:=aJ h
 obtain⟨gE,ok⟩:=au.mp gE
 have ok:=sX ok
 refine wpAny_comprehension_free (use:=use) rfl (k6 gE) (j8 (jh hc ok)) ok.kind (sV ok) (wm (hR.aw h ha hc S) ?_)
 clear h
 rintro xv bk ⟨bK,c,aR,aP,bX,bh,hv⟩
 obtain⟨ts,hi,aP⟩:=cL aP
 obtain⟨hq,aP⟩:=aJ aP
 exact CS hR hc ha ok bh hi (aj hq) hv aP fun nn ks us acc C s' hk ce=>pM nn ks us acc C bk s' bK aR hk bX bh ce
theorem dU.jE{F':FH}{bB:St}{bk:Shared}{h':Heap}{tk:Nat}(P:dU F st rv s F' bB bk)(ha:s.heap.get? a=none)(hk: ∀b o,b≠a→bk.heap.get? b=some o→h'.get? b=some o):dU F st rv s F' bB { bk with heap:=h',toks:=tk } where
 sh:=by clear hk;obtain⟨h,t,rfl⟩:=P.sh;exact⟨h',tk,rfl⟩
 le:=P.le
 new:=P.new
 keep:=fun b o e no=>hk b o (fun q=>by rw[q,ha]at e;exact nn e) (P.keep b o e no)
 own:=P.own
 held:=P.held
 alive:=fun b e=>by
  have e1:=P.alive b e
  induction q:bk.heap.get? b using ab with
  |none=>exact absurd q e1
  |some o=>refine(?_:h'.get? b≠none);exact ae (hk b o (fun z=>e (z▸ha)) q) (fun z=>nomatch z)
 cK:=P.cK
 keys:=P.keys
theorem i8.go{acc:Value}{u:MV}{C:Addr}{s':Shared}{h':Heap}{tk:Nat}(ce:i8 D F W env me st rv s acc u C s')(S:SR D F W env me st rv s.heap)(hs: ∀b o,b≠C→s'.heap.get? b=some o→h'.get? b=some o):
 ∃F',SR D F' W env me st rv h'∧dU F st rv s F' st { s' with heap:=h',toks:=tk }∧qW D F' W st rv me h' u acc:=by
 obtain⟨F',S',P',T',hC⟩:=ce.fin
 have fr:=S.fresh ce.cn
 refine⟨F',S'.jE (G:=fun b=>b=C) (fun b o g e=>hs b o g e) ?_ ?_ ?_ ?_ ?_ ?_,P'.jE ce.cn hs,?_⟩
 .clear ce hs fr;rintro b rfl;exact hC
 .clear hC;rintro b rfl;exact fun q=>fr.2.2.1 (P'.held _ q)
 .clear ce hs;rintro b rfl;exact fr.2.2.2
 .intro q;exact ce.cw (q▸S.pw.1)
 .intro p hp q
  obtain⟨v,o,e,_⟩:=S.tn p hp
  rw[q,ce.cn]at e;exact nn e
 .intro b w
  obtain⟨o,e⟩:=S'.wx b w
  exact⟨o,hs b o (fun q=>ce.cw (q▸w)) e⟩
 .obtain⟨⟨a,rfl,hF,hW,hH,hm⟩,iG,hb,hx⟩:=T'
  have lw:a≠C:=(ce.fresh a rfl).2
  obtain⟨o,ho,hd⟩:=hb a rfl
  exact⟨⟨a,rfl,hF,hW,hH,hm⟩,f0.box hx (dG.refl _) iG fun b o e q=>by obtain rfl:=eM e;exact hs _ _ lw q,fun b e=>by obtain rfl:=eM e;exact⟨o,hs _ _ lw ho,hd⟩,hx⟩
theorem u2{acc:Value}{u:MV}{C:Addr}{bk s':Shared}{bK:FH}{aR:St}(hk:k true u aR=some out)(P:dU F st rv s bK aR bk)(bh:SR D bK W env me aR rv bk.heap)(ce:i8 D bK W env me aR rv bk acc u C s'):
 compPost (model D.prog D.w) A E none (bP D F W env me st rv s k out) acc C (.ok .next) s':=by
 obtain⟨m,hm⟩:=ce.ns
 refine⟨m,hm,fun h' hs=>?_⟩
 obtain⟨F',S',P',T'⟩:=ce.go (tk:=s'.toks) bh (h':=h') fun b o hb e=>(hs.2 b hb).trans e
 exact⟨F',true,u,aR,hk,P.trans P',S',T',fun Y a e=>P.e7 (ce.fresh a e).1⟩
theorem Mh(hR:d4 D n R)(hc:cy D n cx env)(ha:ey A n)(S:SR D F W env me st rv s.heap){sk:Nat}
 (h:(bif cx.sd&&(decide (displayRoad sk [e]= .oneByOne)&&kdsPlain e)then R cx e st fun Y t st=>dI t fun i=>bif decide (0≤i)&&decide (i<64)then k true (.set [i]) st else none else none)=some out):
 wpAny (model D.prog D.w) A (eval (.Set [e] sk pos) env) (bP D F W env me st rv s k out) E s:=by
 obtain⟨hq,h⟩:=aJ h
 simp only[aU,a9]at hq
 have fr:=cE s.heap
 have S':=S.ext (cO (h:=s.heap) { cls:= .type "set",dict:=none,data:= .set #[] 0 (eQ (ei D.w) #[])})
 refine CK S.IJ (hc.cd hq.1) hq.2.1 hq.2.2 (wm (hR.aw (s:={ s with heap:=s.heap.push { cls:= .type "set",dict:=none,data:= .set #[] 0 (eQ (ei D.w) #[])}}) h ha hc S') ?_)
 rintro v bk ⟨bK,t,aR,aP,bX,bh,hv⟩
 obtain⟨i,rfl,Ou⟩:=dE aP
 clear aP
 .obtain⟨hi,aP⟩:=aJ Ou
  clear Ou
  simp only[aU,a9]at hi
  obtain⟨tk,rfl⟩:=gj (D:=D) hv
  have sf:=S.fresh fr
  have nO: ¬kg st rv s.heap.objs.size:=fun q=>sf.2.2.1 q.held
  have h0:(s.heap.push { cls:= .type "set",dict:=none,data:= .set #[] 0 (eQ (ei D.w) #[])}).get? s.heap.objs.size=some { cls:= .type "set",dict:=none,data:= .set #[] 0 (eQ (ei D.w) #[])}:=bt _ rfl
  have h1:=bX.keep _ _ h0 nO
  have JK:bK s.heap.objs.size=none:=by
   induction z:bK s.heap.objs.size using ab with
   |none=>rfl
   |some o=>
    rcases bX.new _ o z with q|q|q
    .exact fU sf.1 q
    .exact Sn ((show(s.heap.push _).get? s.heap.objs.size=_ from h0).symm.trans q)
    .exact absurd q nO
  have nH: ¬dh aR rv s.heap.objs.size:=fun q=>sf.2.2.1 (bX.held _ q)
  refine⟨_,i,tk,rfl,h1,qI,hi.1,hi.2,fun h' n9 o' tw hk hs=>?_⟩
  have fC:dU F st rv s bK aR bk:=(dU.same (cO _)).trans bX
  refine⟨bK,true,_,aR,aP,fC.jE fr hk,?_,⟨⟨_,rfl,JK,sf.2.1,nH,sf.2.2.2⟩,⟨[],⟨⟨_,o',rfl,tw,hs⟩,rfl⟩,dm.nil⟩,fun b e=>by obtain rfl:=eM e;exact⟨o',tw,(hs.1 D.prog D.w).1.2.1⟩,rfl⟩,fun Y b e=>by obtain rfl:=eM e;exact fr⟩
  refine bh.jE (G:=fun b=>b=s.heap.objs.size) (fun b o g e=>hk b o g e) ?_ ?_ ?_ ?_ ?_ ?_
  .rintro b rfl;exact JK
  .rintro b rfl;exact nH
  .rintro b rfl;exact sf.2.2.2
  .intro q;exact sf.2.1 (q▸S.pw.1)
  .intro p hp q
   obtain⟨v,o,e,_⟩:=S.tn p hp
   rw[q,fr]at e;exact nn e
  .intro b w
   obtain⟨o,e⟩:=bh.wx b w
   exact⟨o,hk b o (fun q=>sf.2.1 (q▸w)) e⟩
theorem Iu(S:SR D F W env me st rv s.heap)(h:k true (.dict 0 [] []) st=some out):wpAny (model D.prog D.w) A (eval (.Dict [] [] pos) env) (bP D F W env me st rv s k out) E s:=by
 refine Gx (eval_Dict_empty ..) ?_
 refine ak (wpAny_standAt ?_)
 refine wpAny_newObj_type ?_
 have fr:=cE s.heap
 have hk:=cO (h:=s.heap) { cls:= .type "dict",data:= .dict #[]}
 obtain⟨o,ho,hd⟩:=Heap.dictOf_iff.mp (Heap.DictOf.new (knd:=intKind D.prog D.w) s.heap)
 exact⟨F,true,_,st,h,dU.same hk,S.ext hk,S.Sx fr ho hd.choose_spec.choose_spec.1.2.1 rfl ⟨[],⟨_,o,[],rfl,ho,hd,rfl,rfl,bn _⟩,dm.nil⟩,fun Y b e=>by obtain rfl:=eM e;exact fr⟩
end
theorem iC(hn:20≤n): ∀m:Nat,d4 D n (ev m):=by
 intro m
 induction m with
 |zero=>intro cx e st k out h;exact nn h
 |succ m ih=>
  intro cx e st k out h
  induction e using Expr.casesOn with
  |Constant c ck p=>
   refine⟨fun Y Y z=>(nomatch z),?_⟩
   intro A env F W me rv s E ha hc S
   cases c with
   |none=>exact wpAny_Constant_none (bP.dD (k:=k) h (dU.refl ..) S (oK (D:=D) (F:=F)))
   |bool b=>exact wpAny_Constant_bool (bP.dD (k:=k) h (dU.refl ..) S (ru (D:=D) (F:=F)))
   |int i=>exact wpAny_Constant_int (bP.dD (k:=k) h (dU.same fun Y Y e=>e) S (iL (D:=D) (F:=F)))
   |str x=>exact wpAny_Constant_str (bP.dD (k:=k) h (dU.same fun Y Y e=>e) S (vM (D:=D) (F:=F)))
   |_=>exact nn h
  |Name x p=>exact⟨fun Y Y z=>(nomatch z),fun ha hc S=>Bf hc S h⟩
  |BinOp l op r p=>exact⟨fun Y Y z=>(nomatch z),fun ha hc S=>yb ih ha hc S h⟩
  |UnaryOp op x p=>
   refine⟨fun Y Y z=>(nomatch z),fun ha hc S=>?_⟩
   induction op using UnaryOp.casesOn with
   |Not=>exact Mi ih ha hc S h
   |_=>exact sR ih ha hc S h
  |BoolOp op es p=>exact⟨fun Y Y z=>(nomatch z),fun ha hc S=>CL ih ha hc S h⟩
  |IfExp t b o p=>exact⟨fun Y Y z=>(nomatch z),fun ha hc S=>ya ih ha hc S h⟩
  |Compare l oa rs p=>exact⟨fun Y Y z=>(nomatch z),fun ha hc S=>Af ih ha hc S h⟩
  |Call f args kws p=>
   refine⟨fun Y Y z=>(nomatch z),fun ha hc S=>?_⟩
   induction kws using aO with
   |nil=>exact Iv ih hn ha hc S h
   |cons _ _=>exact nn h
  |Attribute o a p=>exact⟨fun Y Y z=>(nomatch z),fun ha hc S=>wB ih ha hc S h⟩
  |Subscript v sl p=>exact⟨fun Y Y z=>(nomatch z),fun ha hc S=>EC ih ha hc S h⟩
  |List es p=>exact⟨fun Y Y z=>(nomatch z),fun ha hc S=>It ih ha hc S h⟩
  |Tuple es c p=>exact⟨fun Y Y z=>(nomatch z),fun ha hc S=>Ga ih ha hc S h⟩
  |Set es c p=>
   refine⟨fun Y Y z=>(nomatch z),fun ha hc S=>?_⟩
   induction es using aO with
   |nil=>exact nn h
   |cons e es=>induction es using aO with
    |nil=>exact Mh ih hc ha S h
    |cons _ _=>exact nn h
  |Dict ks vs p=>
   refine⟨fun Y Y z=>(nomatch z),fun ha hc S=>?_⟩
   induction ks using aO with
   |cons _ _=>exact nn h
   |nil=>induction vs using aO with
    |nil=>exact Iu S h
    |cons _ _=>exact nn h
  |ListComp qV gens sc p=>
   refine⟨fun Y Y z=>(nomatch z),fun ha hc S=>?_⟩
   obtain⟨g,gs,rfl,g⟩:=bL h;clear h
   obtain⟨rfl,h⟩:=cm g;clear g
   obtain⟨tg,iter,ifs,TH⟩:=g
   obtain⟨x,px,hx,g⟩:=eZ h;clear h
   have h:=g;clear g
   obtain⟨h1,h⟩:=aJ h
   have h1:=aj h1
   subst hx h1
   refine ae (eval_ListComp ..) ?_
   exact pc ih hc ha S h fun us acc C bk s' bK aR hk P bh ce=>u2 hk P bh ce
  |DictComp kx vx gens sc p=>
   refine⟨fun Y Y z=>(nomatch z),fun ha hc S=>?_⟩
   obtain⟨g,gs,rfl,g⟩:=bL h;clear h
   obtain⟨rfl,h⟩:=cm g;clear g
   obtain⟨tg,iter,ifs,TH⟩:=g
   obtain⟨x,px,hx,g⟩:=eZ h;clear h
   obtain⟨hi,h⟩:=cm g;clear g
   obtain⟨h1,h⟩:=aJ h
   have h1:=aj h1
   subst hx h1 hi
   refine ae (arm_eval_DictComp ..) ?_
   exact pi ih hc ha S h fun nn ks us acc C bk s' bK aR hk P bh ce=>u2 hk P bh ce
  |_=>exact nn h
section
structure cT(cx:Cx)(env:Env)(me:Me)(P:FH)(bj:FH)(aZ:Shared)(M O:Addr→Prop)(lv:Option Value)(F:FH)(W:Addr→Prop)(st:St)(rv:RV)(s:Shared):Prop where
 sh: ∃h tk,s={ aZ with heap:=h,toks:=tk }
 le:dG bj F
 new: ∀b o,F b=some o→bj b=some o∨aZ.heap.get? b=none∨O b
 keep: ∀b o,aZ.heap.get? b=some o→ ¬M b→s.heap.get? b=some o
 alive: ∀b,aZ.heap.get? b≠none→s.heap.get? b≠none
 own: ∀k t b,st.get k=some (.own t)→rv k=some (.ref b)→aZ.heap.get? b=none∨O b
 kG: ∀k t,st.get k=some (.cK t)→rv k=lv
 mo: ∀b,O b→M b
 ml: ∀b,lv=some (.ref b)→M b
 wn: ∀a,W a→aZ.heap.get? a=none
 cw: ∀x c,cx.sc.names.lookup x=some .cell→env.cells.lookup x=some c→W c
 pr: ∀b o,P b=some o→s.heap.get? b=some o∧F b=none∧ ¬W b∧ ¬dh st rv b
 mf: ∀i C d,me=some (i,C,d)→aZ.heap.get? d=none∧P d=none
variable{Pr bj:FH}{aZ:Shared}{M O:Addr→Prop}{lv:Option Value}
theorem cT.e7(r:cT cx env me Pr bj aZ M O lv F W st rv s)(h:s.heap.get? b=none):aZ.heap.get? b=none:=by
 induction e:aZ.heap.get? b using ab with
 |none=>rfl
 |some o=>exact absurd h (r.alive b (by exact ae e (fun z=>nomatch z)))
theorem cT.VW(r:cT cx env me Pr bj aZ M O lv F W st rv s)(h:kg st rv b):aZ.heap.get? b=none∨M b:=by
 obtain⟨k,sl,h1,h2,h3⟩:=h
 induction sl using Slot.casesOn with
 |own t=>exact(r.own k t b h1 h3).imp id (r.mo b)
 |cK t=>exact .inr (r.ml b (by exact(r.kG k t h1).symm.trans h3))
 |_=>exact ew h2
theorem cT.ev{F':FH}{bB:St}{s':Shared}(r:cT cx env me Pr bj aZ M O lv F W st rv s)(P:dU F st rv s F' bB s')(S:SR D F W env me st rv s.heap)(S':SR D F' W env me bB rv s'.heap):cT cx env me Pr bj aZ M O lv F' W bB rv s' where
 sh:=by clear S S';obtain⟨h,tk,rfl⟩:=r.sh;obtain⟨h',n9,rfl⟩:=P.sh;exact⟨h',n9,rfl⟩
 le:=r.le.trans P.le
 new:=fun b o e=>by
  rcases P.new b o e with q|q|q
  .exact r.new b o q
  .exact .inr (.inl (r.e7 q))
  .obtain⟨k,sl,h1,h2,h3⟩:=q
   induction sl using Slot.casesOn with
   |own t=>exact .inr (r.own k t b h1 h3)
   |cK t=>
    obtain⟨t',e'⟩:=P.cK.1 k t h1
    obtain⟨a,q1,q2,_⟩:=S'.held k _ e' rfl
    obtain rfl:=eM (dZ h3 q1)
    exact fU q2 e
   |_=>exact ew h2
 keep:=fun b o e nm=>P.keep b o (r.keep b o e nm) fun q=>by
  rcases r.VW q with q|q
  .exact Sn (e.symm.trans q)
  .exact nm q
 alive:=fun b e=>P.alive b (r.alive b e)
 own:=fun k t b h1 h3=>by
  obtain⟨k2,sl,q1,q2,q3⟩:=P.own b ⟨k,_,h1,rfl,h3⟩
  induction sl using Slot.casesOn with
  |own t'=>exact r.own k2 t' b q1 q3
  |cK t'=>
   obtain⟨ZU,e'⟩:=P.cK.1 k2 t' q1
   have:=S'.dist k2 k _ _ b e' h1 rfl rfl q3 h3
   subst this
   rw[h1]at e';cases e'
  |_=>exact ew q2
 kG:=fun k t h=>by obtain⟨t',e⟩:=P.cK.2 k t h;exact r.kG k t' e
 mo:=r.mo
 ml:=r.ml
 wn:=r.wn
 cw:=r.cw
 pr:=fun b o e=>by
  obtain⟨h1,h2,h3,h4⟩:=r.pr b o e
  refine⟨P.keep b o h1 fun q=>h4 q.held,?_,h3,fun q=>h4 (P.held b q)⟩
  induction z:F' b using ab with
  |none=>rfl
  |some o'=>
   rcases P.new b o' z with q|q|q
   .exact fU h2 q
   .exact Sn (h1.symm.trans q)
   .exact absurd q.held h4
 mf:=r.mf
theorem cT.store{sl:Slot}{h':Heap}{tk:Nat}(r:cT cx env me Pr bj aZ M O lv F W st rv s)(hn:gO D F W st rv me s.heap sl v)(hf: ∀t a,sl= .own t→v= .ref a→aZ.heap.get? a=none∧Pr a=none)
 (keep: ∀b o,¬W b→s.heap.get? b=some o→h'.get? b=some o) (alive: ∀b,s.heap.get? b≠none→h'.get? b≠none):
 cT cx env me Pr bj aZ M O lv F W (st.put (.v x) sl) (rv.set (.v x) v) { s with heap:=h',toks:=tk } where
 sh:=by clear hn keep alive;obtain⟨h,tk,rfl⟩:=r.sh;exact⟨h',_,rfl⟩
 le:=r.le
 new:=r.new
 keep:=fun b o e nm=>keep b o (fun w=>by exact fU (r.wn b w) e) (r.keep b o e nm)
 alive:=fun b e=>alive b (r.alive b e)
 own:=fun k t b h1 h3=>by
  rw[St.eP]at h1
  unfold RV.set at h3
  split at h1
  .rename_i q
   rw[aF q]at h3
   obtain rfl:=b8 h1;obtain rfl:=b8 h3
   exact .inl (hf t b rfl rfl).1
  .rename_i q
   rw[az q]at h3
   exact r.own k t b h1 h3
 kG:=fun k t h1=>by
  rw[St.eP]at h1
  split at h1
  .clear hf;obtain rfl:=b8 h1;exact hn.elim
  .rename_i q;exact(az q).trans (r.kG k t h1)
 mo:=r.mo
 ml:=r.ml
 wn:=r.wn
 cw:=r.cw
 pr:=fun b o e=>by
  obtain⟨h1,h2,h3,h4⟩:=r.pr b o e
  refine⟨keep b o h3 h1,h2,h3,?_⟩
  rintro⟨k,s',e1,e2,e3⟩
  rw[St.eP]at e1
  unfold RV.set at e3
  split at e1
  .rename_i q
   rw[aF q]at e3
   obtain rfl:=b8 e1;obtain rfl:=b8 e3
   induction sl using Slot.casesOn with
   |own t=>exact fU ((hf t b rfl rfl).2) e
   |aw t=>exact ew e2
   |me C=>first|exact hn|(exact nn hh;done)|(exact nn m1;done)|(exact nn m2;done)|(exact ew e2;done)
   |_=>exact hn.elim
  .rename_i q
   rw[az q]at e3
   exact h4 ⟨k,s',e1,e2,e3⟩
 mf:=r.mf
theorem cT.mv(r:cT cx env me Pr bj aZ M O lv F W st rv s)(h:s.heap.get? b=none):Pr b=none:=by
 induction e:Pr b using ab with
 |none=>rfl
 |some o=>exact Sn (((r.pr b o e).1).symm.trans h)
inductive Zx(D:Wd)(cx:Cx)(env:Env)(me:Me)(Pr bj:FH)(aZ:Shared)(M O:Addr→Prop)(lv:Option Value)(W:Addr→Prop)(k:St→aH)(out:MV×Option MV)(s':Shared):Prop where
 |mk (F':FH) (bB:St) (fx:RV) (h1:k bB=some out) (h2:SR D F' W env me bB fx s'.heap) (h3:cT cx env me Pr bj aZ M O lv F' W bB fx s')
inductive Zw(D:Wd)(cx:Cx)(env:Env)(me:Me)(Pr bj:FH)(aZ:Shared)(M O:Addr→Prop)(lv:Option Value)(W:Addr→Prop)(out:MV×Option MV)(v:Value)(s':Shared):Prop where
 |mk (F':FH) (bB:St) (fx:RV) (t:MV) (h1:out=(t,ci bB)) (h2:SR D F' W env me bB fx s'.heap) (h3:cT cx env me Pr bj aZ M O lv F' W bB fx s') (h4:hE D F' W bB fx me s'.heap cx.own t v) (h5:cx.own=true→ ∀a,v= .ref a→aZ.heap.get? a=none)
noncomputable def ee(D:Wd)(cx:Cx)(env:Env)(me:Me)(Pr bj:FH)(aZ:Shared)(M O:Addr→Prop)(lv:Option Value)(W:Addr→Prop)(k:St→aH)(out:MV×Option MV)(f:Flow)(s':Shared):Prop:=match f with
 | .next=>Zx D cx env me Pr bj aZ M O lv W k out s'
 | .ret v=>Zw D cx env me Pr bj aZ M O lv W out v s'
 |_=>False
noncomputable def VJ(D:Wd)(n:Nat)(X:Cx→Stmt→St→(St→aH)→aH):Prop:=
 ∀{cx:Cx}{b:Stmt}{st:St}{k:St→aH}{out:MV×Option MV},X cx b st k=some out→
  ∀{A:Around}{env:Env}{F:FH}{W:Addr→Prop}{me:Me}{rv:RV}{s:Shared}{E:Value→Shared→Prop}{Pr bj:FH}{aZ:Shared}{M O:Addr→Prop}{lv:Option Value},ey A n→cy D n cx env→SR D F W env me st rv s.heap→cT cx env me Pr bj aZ M O lv F W st rv s→
   wpAny (model D.prog D.w) A (exec b env) (ee D cx env me Pr bj aZ M O lv W k out) E s
noncomputable def xu(D:Wd)(n:Nat)(X:Cx→List Stmt→St→(St→aH)→aH):Prop:=
 ∀{cx:Cx}{b:List Stmt}{st:St}{k:St→aH}{out:MV×Option MV},X cx b st k=some out→
  ∀{A:Around}{env:Env}{F:FH}{W:Addr→Prop}{me:Me}{rv:RV}{s:Shared}{E:Value→Shared→Prop}{Pr bj:FH}{aZ:Shared}{M O:Addr→Prop}{lv:Option Value},ey A n→cy D n cx env→SR D F W env me st rv s.heap→cT cx env me Pr bj aZ M O lv F W st rv s→
   wpAny (model D.prog D.w) A (execs b env) (ee D cx env me Pr bj aZ M O lv W k out) E s
theorem td(hc:cy D n cx env):interactive env=false:=by
 unfold interactive;exact ae hc.kf rfl
theorem oQ{o:Bool}(h:hE D F W st rv me s.heap o t v):gO D F W st rv me s.heap (fK o t) v:=by induction o using ag<;>exact h
theorem oP{o:Bool}{t u:MV}(h:fK o t= .own u):o=true:=by induction o using ag with|true=>rfl|false=>cases h
theorem pu(hc:cy D n cx env)(r:cT cx env me Pr bj aZ M O lv F W st rv s){sl:Slot}{k:St→aH}(h:gN cx x sl st k=some out):
 (env.kindOf x=some .local∨(env.kindOf x=some .cell∧ ∃c,env.cells.lookup x=some c∧W c))∧k (st.put (.v x) sl)=some out:=by
 unfold gN at h
 split at h
 .rename_i q;exact⟨.inl (hc.nl x q),(aJ h).2⟩
 .rename_i q
  obtain⟨c,e⟩:=hc.cs x _ q (.inl rfl)
  exact⟨.inr ⟨hc.nc x q,c,e,r.cw x c q e⟩,(aJ h).2⟩
 .exact nn h
theorem CY(hc:cy D n cx env)(S:SR D F W env me st rv s.heap)(r:cT cx env me Pr bj aZ M O lv F W st rv s){o:Bool}{k:St→aH}(j0:hE D F W st rv me s.heap o t v)(hf:o=true→ ∀a,v= .ref a→aZ.heap.get? a=none∧Pr a=none)
 (h:gN cx x (fK o t) st k=some out):wpAny (model D.prog D.w) A (storeName env x v) (fun Y=>ee D cx env me Pr bj aZ M O lv W k out .next) E s:=by
 obtain⟨hk,h1⟩:=pu hc r h
 refine gv hc.pl S hk (oQ j0) fun h' tk S' k1 Y al=>?_
 exact⟨F,_,_,h1,S',r.store (oQ j0) (fun t a e q=>hf (oP e) a q) k1 al⟩
theorem l7{iP target:Expr}{line:Nat}(ht: ∀x p,target≠ .Name x p):swapsWith iP (some target) line env=pure false:=by
 induction iP using Expr.casesOn<;>first|rfl|(induction target using Expr.casesOn<;>first|rfl|exact absurd rfl (ht _ _))
theorem u0(hc:cy D n cx env){acc:Value}{u:MV}{C:Addr}{bk s':Shared}{bK:FH}{aR:St}{px:Pos}{k:St→aH}(S:SR D F W env me st rv s.heap)(r:cT cx env me Pr bj aZ M O lv F W st rv s)
 (hk:gN cx x (fK true u) aR k=some out) (P:dU F st rv s bK aR bk) (bh:SR D bK W env me aR rv bk.heap) (ce:i8 D bK W env me aR rv bk acc u C s'):
 compPost (model D.prog D.w) A E (some (assign (.Name x px) env)) (fun Y=>ee D cx env me Pr bj aZ M O lv W k out .next) acc C (.ok .next) s':=by
 have r₁:=r.ev P S bh
 obtain⟨F',S',P',T',hC⟩:=ce.fin
 have r':=r₁.ev P' bh S'
 obtain⟨Ax,h1⟩:=pu hc r' hk
 have hf: ∀a,acc= .ref a→aZ.heap.get? a=none∧Pr a=none:=fun a e=>⟨r₁.e7 (ce.fresh a e).1,r₁.mv (ce.fresh a e).1⟩
 have fr:=bh.fresh ce.cn
 refine wpAny_assign_Name (gv hc.pl S' Ax (sl:= .own u) T' fun h' tk BF k1 k2 al=>?_)
 have By:=r'.store (sl:= .own u) (h':=h') (tk:=tk) (x:=x) T' (fun t a Y q=>hf a q) k1 al
 have cl:C≠env.locals:=fun q=>ce.cw (q▸S.pw.1)
 have cc:env.cells.lookup x≠some C:=fun q=>by
  obtain⟨v,o,e,_⟩:=bh.tn _ (mem_lookup q)
  exact fU (show bk.heap.get? C=none from ce.cn) e
 clear T' hf;obtain⟨m,o,es,ep,e1,rr⟩:=ce.ns
 refine⟨m,⟨o,es,ep,k2 C o cl cc e1,rr⟩,fun Kj hs=>?_⟩
 have keep: ∀b o,b≠C→h'.get? b=some o→Kj.get? b=some o:=fun b o hb e=>(hs.2 b hb).trans e
 refine⟨F',_,_,h1,BF.jE (G:=fun b=>b=C) (fun b o g e=>keep b o g e) ?_ ?_ ?_ ?_ ?_ ?_,?_⟩
 .clear ce fr cl cc e1 hs keep;rintro b rfl;exact hC
 .clear hC BF By;rintro b rfl ⟨k',sl,q1,q2,q3⟩
  rw[St.eP]at q1
  unfold RV.set at q3
  split at q1
  .rename_i q;rw[aF q]at q3;obtain rfl:=b8 q1;obtain rfl:=b8 q3
   exact(ce.fresh _ rfl).2 rfl
  .rename_i q;rw[az q]at q3
   exact fr.2.2.1 (P'.held _ ⟨k',sl,q1,q2,q3⟩)
 .clear ce cl cc e1 hs keep;rintro b rfl;exact fr.2.2.2
 .exact fun q=>cl q.symm
 .intro p hp q
  obtain⟨v,o,e,_⟩:=bh.tn p hp
  rw[q,ce.cn]at e;exact nn e
 .intro b w
  obtain⟨o,e⟩:=BF.wx b w
  exact⟨o,keep b o (fun q=>ce.cw (q▸w)) e⟩
 .have c0:aZ.heap.get? C=none:=r₁.e7 ce.cn
  refine⟨?_,By.le,By.new,fun b o e nm=>keep b o (fun q=>by rw[q,c0]at e;exact nn e) (By.keep b o e nm),fun b e=>?_,By.own,By.kG,By.mo,By.ml,By.wn,By.cw,fun b o e=>?_,By.mf⟩
  .obtain⟨h0,t0,e0⟩:=r'.sh
   exact⟨Kj,tk,by exact ae e0 rfl⟩
  .have:=By.alive b e
   induction q:h'.get? b using ab with
   |none=>exact absurd q this
   |some o=>refine(?_:Kj.get? b≠none);exact ae (keep b o (fun z=>e (z▸c0)) q) (fun z=>nomatch z)
  .obtain⟨h1,h2⟩:=By.pr b o e
   exact⟨keep b o (fun q=>by rw[q,r₁.mv ce.cn]at e;exact nn e) h1,h2⟩
end
section
variable{Pr bj:FH}{aZ:Shared}{M O:Addr→Prop}{lv:Option Value}
theorem Cv(h:isNone t=true):t= .none:=by
 induction t using MV.casesOn with
 |none=>rfl
 |_=>exact ew h
theorem Ht(hR:d4 D n R)(ha:ey A n)(hc:cy D n cx env)(S:SR D F W env me st rv s.heap)(r:cT cx env me Pr bj aZ M O lv F W st rv s){f:Expr}{as:List Expr}{ks:List Keyword}{p pos:Pos}{k:St→aH}
 (h:(R cx (.Call f as ks p) st fun Y t st=>bif isNone t then k st else none)=some out):wpAny (model D.prog D.w) A (exec (.Expr (.Call f as ks p) pos) env) (ee D cx env me Pr bj aZ M O lv W k out) E s:=by
 refine wpAny_Expr (wm (hR.aw h ha hc S) ?_) (td hc) rfl
 rintro v bk ⟨bK,t,aR,aP,bX,bh,hv⟩
 obtain⟨hi,aP⟩:=aJ aP
 obtain rfl:=Cv hi
 obtain rfl:=Hq (D:=D) hv
 exact⟨bK,aR,rv,aP,bh,r.ev bX S bh⟩
theorem uI(hR:d4 D n R)(ha:ey A n)(hc:cy D n cx env)(S:SR D F W env me st rv s.heap)(r:cT cx env me Pr bj aZ M O lv F W st rv s){k:St→aH}
 (h:(R cx e st fun o t st=>bif !cx.own||o then some (t,ci st)else none)=some out):wpAny (model D.prog D.w) A (exec (.Return (some e) pos) env) (ee D cx env me Pr bj aZ M O lv W k out) E s:=by
 refine wpAny_Return_some (wm ((hR h).2 ha hc S) ?_)
 clear h;rintro v bk ⟨bK,o,t,aR,aP,bX,bh,hr,hf⟩
 obtain⟨ho,aP⟩:=aJ aP
 obtain rfl:=b8 aP
 have r₁:=r.ev bX S bh
 induction jM:cx.own using ag with
 |true=>
  rw[jM]at ho
  have:o=true:=by simpa using ho
  clear ho;subst this
  exact⟨bK,aR,rv,t,rfl,bh,r₁,by refine ae jM ?_;exact hr,fun Y a e=>r.e7 (hf rfl a e)⟩
 |false=>
  obtain⟨fW,eT,fC,hv⟩:=hE.freeze bh bX hr hf
  exact⟨fW,aR,rv,t,rfl,eT,r.ev fC S eT,by refine ae jM ?_;exact hv,fun e=>by rw[jM]at e;exact ew e⟩
theorem tO(S:SR D F W env me st rv s.heap)(r:cT cx env me Pr bj aZ M O lv F W st rv s){k:St→aH}
 (h:(bif !cx.own then some (MV.none,ci st)else none)=some out):wpAny (model D.prog D.w) A (exec (.Return none pos) env) (ee D cx env me Pr bj aZ M O lv W k out) E s:=by
 obtain⟨ho,h⟩:=aJ h
 obtain rfl:=b8 h
 have jM:cx.own=false:=by simpa using ho
 exact wpAny_Return_none ⟨F,st,rv,.none,rfl,S,r,by refine ae jM ?_;exact oK (D:=D) (F:=F),fun e=>by rw[jM]at e;exact ew e⟩
theorem Pe(hR:d4 D n R){X:Cx→List Stmt→St→(St→aH)→aH}(hX:xu D n X)(ha:ey A n)(hc:cy D n cx env)(S:SR D F W env me st rv s.heap)(r:cT cx env me Pr bj aZ M O lv F W st rv s){t:Expr}{b o:List Stmt}{k:St→aH}
 (h:fH (R cx) cx m t st (fun c st=>bif c then X cx b st k else X cx o st k)=some out):wpAny (model D.prog D.w) A (exec (.If t b o pos) env) (ee D cx env me Pr bj aZ M O lv W k out) E s:=by
 refine wpAny_If (wm (mK hR hc m ha h S) ?_)
 rintro c bk ⟨bK,aR,aP,bX,bh⟩
 induction c using ag with
 |true=>rw[ao]at aP;exact ae (aF rfl) (hX aP ha hc bh (r.ev bX S bh))
 |false=>rw[bH]at aP;exact ae (az cA) (hX aP ha hc bh (r.ev bX S bh))
theorem E2(hR:d4 D n R){X:Cx→List Stmt→St→(St→aH)→aH}(hX:xu D n X)(ha:ey A n)(hc:cy D n cx env)(S:SR D F W env me st rv s.heap)(r:cT cx env me Pr bj aZ M O lv F W st rv s){t:Expr}{b:List Stmt}{k:St→aH}
 (h:j4 (fH (R cx) cx m t) (X cx b) cx.wf st k=some out):wpAny (model D.prog D.w) A (exec (.While t b [] pos) env) (ee D cx env me Pr bj aZ M O lv W k out) E s:=by
 refine wpAny_While (codeAny_whileLoop (fun j s'=> ∃F' bB fx,j4 (fH (R cx) cx m t) (X cx b) j bB k=some out∧SR D F' W env me bB fx s'.heap∧cT cx env me Pr bj aZ M O lv F' W bB fx s') ?_ cx.wf ⟨F,st,rv,h,S,r⟩)
 rintro j s' ⟨F',bB,fx,h',S',r'⟩
 induction j using Nat.casesOn with
 |zero=>exact nn h'
 |succ j=>
  refine wm (mK hR hc m ha h' S') ?_
  rintro c bk ⟨bK,aR,aP,bX,bh⟩
  have r₁:=r'.ev bX S' bh
  induction c using ag with
  |true=>
   rw[ao]at aP;refine ae (aF rfl) ?_
   refine wm (hX aP ha hc bh r₁) ?_
   intro f d3 dy
   induction f using Flow.casesOn with
   |next=>obtain⟨fW,eD,PI,q1,q2,q3⟩:=dy;exact⟨j,Nat.lt_succ_self _,fW,eD,PI,q1,q2,q3⟩
   |ret v=>exact dy
   |_=>exact dy.elim
  |false=>
   rw[bH]at aP;refine ae (az cA) ?_
   refine wpAny_execs_nil ?_
   exact⟨bK,aR,fx,aP,bh,r₁⟩
theorem cT.add{I:Addr}{oI:Obj}(r:cT cx env me Pr bj aZ M O lv F W st rv s)(hI:s.heap.get? I=some oI)(fI:F I=none)(wI: ¬W I)(nI: ¬dh st rv I)(hm: ∀i C d,me=some (i,C,d)→I≠i∧I≠d):cT cx env me (fun b=>if b=I then some oI else Pr b) bj aZ M O lv F W st rv s:=
 ⟨r.sh,r.le,r.new,r.keep,r.alive,r.own,r.kG,r.mo,r.ml,r.wn,r.cw,fun b o e=>by
   split at e
   .rename_i q;clear hm;obtain rfl:=b8 e;subst q;exact⟨hI,fI,wI,nI⟩
   .exact r.pr b o e,fun i C d e=>⟨(r.mf i C d e).1,by exact(az (hm i C d e).2.symm).trans ((r.mf i C d e).2)⟩⟩
theorem cT.sub{P':FH}(r:cT cx env me P' bj aZ M O lv F W st rv s)(h: ∀b o,Pr b=some o→P' b=some o):cT cx env me Pr bj aZ M O lv F W st rv s:=
 ⟨r.sh,r.le,r.new,r.keep,r.alive,r.own,r.kG,r.mo,r.ml,r.wn,r.cw,fun b o e=>r.pr b o (h b o e),fun i C d e=>⟨(r.mf i C d e).1,by
   induction q:Pr d using ab with
   |none=>rfl
   |some o=>have:=h d o q;exact fU ((r.mf i C d e).2) this⟩⟩
theorem cT.jE{h':Heap}{tk:Nat}(r:cT cx env me Pr bj aZ M O lv F W st rv s)(h0:aZ.heap.get? a=none)(hp:Pr a=none)(keep: ∀b o,b≠a→s.heap.get? b=some o→h'.get? b=some o):cT cx env me Pr bj aZ M O lv F W st rv { s with heap:=h',toks:=tk } where
 sh:=by obtain⟨h,t,e⟩:=r.sh;exact⟨h',tk,by exact ae e rfl⟩
 le:=r.le
 new:=r.new
 keep:=fun b o e nm=>keep b o (fun q=>by rw[q,h0]at e;exact nn e) (r.keep b o e nm)
 alive:=fun b e=>by
  have:=r.alive b e
  induction q:s.heap.get? b using ab with
  |none=>exact absurd q this
  |some o=>refine(?_:h'.get? b≠none);exact ae (keep b o (fun z=>e (z▸h0)) q) (fun z=>nomatch z)
 own:=r.own
 kG:=r.kG
 mo:=r.mo
 ml:=r.ml
 wn:=r.wn
 cw:=r.cw
 pr:=fun b o e=>by obtain⟨h1,h2⟩:=r.pr b o e;exact⟨keep b o (fun q=>by rw[q,hp]at e;exact nn e) h1,h2⟩
 mf:=r.mf
theorem cT.grow{h':Heap}{tk:Nat}(r:cT cx env me Pr bj aZ M O lv F W st rv s)(keep: ∀b o,s.heap.get? b=some o→h'.get? b=some o):cT cx env me Pr bj aZ M O lv F W st rv { s with heap:=h',toks:=tk } where
 sh:=by obtain⟨h,t,e⟩:=r.sh;exact⟨h',tk,by exact ae e rfl⟩
 le:=r.le
 new:=r.new
 keep:=fun b o e nm=>keep b o (r.keep b o e nm)
 alive:=fun b e=>by
  have:=r.alive b e
  induction q:s.heap.get? b using ab with
  |none=>exact absurd q this
  |some o=>refine(?_:h'.get? b≠none);exact ae (keep b o q) (fun z=>nomatch z)
 own:=r.own
 kG:=r.kG
 mo:=r.mo
 ml:=r.ml
 wn:=r.wn
 cw:=r.cw
 pr:=fun b o e=>by obtain⟨h1,h2⟩:=r.pr b o e;exact⟨keep b o h1,h2⟩
 mf:=r.mf
theorem cT.rebase(r:cT cx env me Pr bj aZ M O lv F W st rv s):cT cx env me Pr F aZ M O lv F W st rv s:=
 ⟨r.sh,dG.refl F,fun b o e=> .inl e,r.keep,r.alive,r.own,r.kG,r.mo,r.ml,r.wn,r.cw,r.pr,r.mf⟩
theorem cT.wF{F':FH}{W':Addr→Prop}{bB:St}{fx:RV}{s':Shared}(r:cT cx env me Pr bj aZ M O lv F W st rv s)(q:cT cx env me Pr F aZ M O lv F' W' bB fx s'):cT cx env me Pr bj aZ M O lv F' W' bB fx s':=
 ⟨q.sh,r.le.trans q.le,fun b o e=>(q.new b o e).elim (r.new b o) .inr,q.keep,q.alive,q.own,q.kG,q.mo,q.ml,q.wn,q.cw,q.pr,q.mf⟩
end
section
variable{Pr bj:FH}{aZ:Shared}{M O:Addr→Prop}{lv:Option Value}
structure Apart(F:FH)(W:Addr→Prop)(env:Env)(me:Me)(st:St)(rv:RV)(h:Heap)(I:Addr):Prop where
 f:F I=none
 w: ¬W I
 hd: ¬dh st rv I
 m: ∀i C d,me=some (i,C,d)→I≠i∧I≠d
 l:I≠env.locals
 c: ∀p∈env.cells,p.2≠I
 al: ∃o,h.get? I=some o
theorem Apart.jE{I a:Addr}{h':Heap}(S:SR D F W env me st rv s.heap)(x:Apart F W env me st rv s.heap a)(keep: ∀b o,b≠a→s.heap.get? b=some o→h'.get? b=some o):SR D F W env me st rv h':=
 S.jE (G:=fun b=>b=a) (fun b o g e=>keep b o g e) (fun b e=>e▸x.f) (fun b e=>e▸x.hd) (fun b e=>e▸x.m) (fun q=>x.l q.symm) (fun p hp q=>x.c p hp q) fun b w=>by
  obtain⟨o,e⟩:=S.wx b w
  exact⟨o,keep b o (fun q=>x.w (q▸w)) e⟩
theorem SR.apart(S:SR D F W env me st rv s.heap){I:Addr}{h':Heap}(hn:s.heap.get? I=none)(ho: ∃o,h'.get? I=some o):Apart F W env me st rv h' I:=by
 have fr:=S.fresh hn
 refine⟨fr.1,fr.2.1,fr.2.2.1,fr.2.2.2,fun q=>fr.2.1 (q▸S.pw.1),fun p hp q=>?_,ho⟩
 obtain⟨v,o,e,Y⟩:=S.tn p hp
 rw[q,hn]at e;exact nn e
theorem FX(q:dh (st.put (.v x) (.aw t)) (rv.set (.v x) v) b):dh st rv b:=by
 obtain⟨k,sl,e1,e2,e3⟩:=q
 rcases St.eG e1 with⟨Y,rfl⟩|⟨q,z⟩
 .exact ew e2
 .exact⟨k,sl,z,e2,(RV.fN q).symm.trans e3⟩
inductive Zu(D:Wd)(cx:Cx)(env:Env)(me:Me)(Pr bj:FH)(aZ:Shared)(M O:Addr→Prop)(lv:Option Value)(W:Addr→Prop)(X:Cx→List Stmt→St→(St→aH)→aH)(b:List Stmt)(x:Str)(k:St→aH)(out:MV×Option MV)(ts:List MV)(bK:FH)(I:Addr)(Sg:Nat→Heap→Prop)(j:Nat)(s':Shared):Prop where
 |mk (i:Nat) (F':FH) (bB:St) (fx:RV) (hj:j=ts.length+1-i) (hi:i≤ts.length) (hk:dN (X cx b) x (ts.drop i) bB k=some out) (S:SR D F' W env me bB fx s'.heap) (r:cT cx env me Pr bj aZ M O lv F' W bB fx s') (le:dG bK F') (aI:Apart F' W env me bB fx s'.heap I) (hs:Sg i s'.heap)
theorem Lg(hR:d4 D n R){X:Cx→List Stmt→St→(St→aH)→aH}(hX:xu D n X)(ha:ey A n)(hc:cy D n cx env)(S:SR D F W env me st rv s.heap)(r:cT cx env me Pr bj aZ M O lv F W st rv s){px:Pos}{iter:Expr}{b:List Stmt}{k:St→aH}
 (h:(bif hU iter&&decide (cx.sc.names.lookup x=some .local∨cx.sc.names.lookup x=some .cell)then R cx iter st fun Y it st=>(d7 it).bind fun ts=>bif aQ ts.length then dN (X cx b) x ts st k else none else none)=some out):wpAny (model D.prog D.w) A (exec (.For (.Name x px) iter b [] pos) env) (ee D cx env me Pr bj aZ M O lv W k out) E s:=by
 obtain⟨hq,h⟩:=aJ h
 obtain⟨jI,hx⟩:=au.mp hq
 have hx:=aj hx
 refine wpAny_For (wm (hR.aw h ha hc S) ?_) (k6 jI)
 rintro v bk ⟨bK,c,aR,aP,bX,bh,hv⟩
 obtain⟨ts,hi,aP⟩:=cL aP
 .obtain⟨hz,aP⟩:=aJ aP
  have hz:ts.length≤1000000:=aj hz
  have r₁:=r.ev bX S bh
  refine sO ha bh hi hz hv ?_
  intro I dy fp Sg fI oM G1 GG Wk xi
  have Ec:=bh.apart fI (G1 _ _ xi)
  have i0:aZ.heap.get? I=none:=r₁.e7 fI
  have ip:Pr I=none:=r₁.mv fI
  have rE:env.kindOf x=some .local∨(env.kindOf x=some .cell∧ ∃c,env.cells.lookup x=some c∧W c):=by
   rcases hx with q|q
   .exact .inl (hc.nl x q)
   .obtain⟨c,e⟩:=hc.cs x _ q (.inl rfl)
    exact .inr ⟨hc.nc x q,c,e,r.cw x c q e⟩
  refine codeAny_forLoop_any (Zu D cx env me Pr bj aZ M O lv W X b x k out ts bK I Sg) ?_ (ts.length+1)
   ⟨0,bK,aR,rv,rfl,Nat.zero_le _,aP,bh.ext oM,r₁.grow oM,dG.refl _,Ec,xi⟩
  rintro j s' ⟨i,F',bB,fx,rfl,Dk,hk,S',r',GC,vm,RU⟩
  by_cases gG:i<ts.length
  .rw[mS gG]at hk
   obtain⟨UQ,hk⟩:=aJ hk
   refine Wk.item i s' _ _ gG RU ?_
   rintro v fu qu ⟨t,ht,ut⟩ Qq jo
   obtain rfl:=dZ (aq gG) ht
   have fi: ∀b o,b≠I→s'.heap.get? b=some o→fu.get? b=some o:=fun b o q e=>jo b o (by simpa using q) e
   have m6:SR D F' W env me bB fx fu:=Apart.jE (I:=I) S' vm fi
   have TR:=r'.jE (tk:=qu) i0 ip fi
   refine wpAny_of_eq (a:=()) rfl ?_
   have jI:gO D F' W bB fx me fu (.aw ts[i]) v:=VR.mono GC ut
   refine wpAny_assign_Name (gv (s:={ s' with heap:=fu,toks:=qu }) hc.pl m6 rE (sl:= .aw ts[i]) jI ?_)
   intro lK rH pQ k1 k2 al
   have Ks:=TR.store (tk:=rH) (x:=x) (sl:= .aw ts[i]) jI (fun t a e=>by cases e) k1 al
   have JB:Sg (i+1) lK:=by
    refine Wk.frame _ _ _ Qq fun b hb o e=>?_
    clear fI G1 Wk Ec i0 ip jo fi;rcases GG b hb with rfl|⟨of,hF⟩
    .exact k1 _ o vm.w e
    .have e1:=m6.fz b of (GC b of hF)
     have e2:=pQ.fz b of (GC b of hF)
     obtain rfl:=dZ e e1;exact e2
   clear fI Ec i0 jo fi;obtain⟨oI,GV⟩:=G1 _ _ JB
   have nh: ¬dh (bB.put (.v x) (.aw ts[i])) (fx.set (.v x) v) I:=fun q=>vm.hd (FX q)
   refine wm (hX (s:={ s' with heap:=lK,toks:=rH }) hk ha hc pQ (Ks.add GV vm.f vm.w nh vm.m).rebase) ?_
   intro f N2 ly
   induction f using Flow.casesOn with
   |next=>
    obtain⟨BS,xb,DN,q1,q2,q3⟩:=ly
    obtain⟨z1,z2,z3,z4⟩:=q3.pr I oI (aF rfl)
    have Jy:dG F' BS:=q3.le
    refine⟨ts.length+1-(i+1),by exact Nn ‹_›,i+1,BS,xb,DN,rfl,gG,q1,q2,((Ks.add GV vm.f vm.w nh vm.m).wF q3).sub fun b o e=>?_,GC.trans Jy,⟨z2,z3,z4,vm.m,vm.l,vm.c,⟨oI,z1⟩⟩,?_⟩
    .rw[az]
     .exact e
     .clear G1 GG Wk vm GV nh q3 z1 z2 z3 z4;rintro rfl;exact fU ip e
    .refine Wk.frame _ _ _ JB fun b hb o e=>?_
     clear G1 Wk ip vm nh q3 z2 z3 z4;rcases GG b hb with rfl|⟨of,hF⟩
     .obtain rfl:=dZ GV e;exact z1
     .have e1:=pQ.fz b of (GC b of hF)
      have e2:=q2.fz b of (Jy b of (GC b of hF))
      obtain rfl:=dZ e e1;exact e2
   |ret v=>
    clear G1 GG Wk;obtain⟨BS,xb,DN,t,q1,q2,q3,q4,q5⟩:=ly
    refine⟨BS,xb,DN,t,q1,q2,((Ks.add GV vm.f vm.w nh vm.m).wF q3).sub fun b o e=>?_,q4,q5⟩
    rw[az]
    .exact e
    .clear vm GV nh q3;rintro rfl;exact fU ip e
   |_=>exact ly.elim
  .have e:i=ts.length:=by exact IM ‹_› ‹_›
   subst e
   rw[List.drop_length]at hk
   refine Wk.done s' _ _ RU fun fu qu jo=>?_
   have fi: ∀b o,b≠I→s'.heap.get? b=some o→fu.get? b=some o:=fun b o q e=>jo b o (by simpa using q) e
   refine wpAny_execs_nil ?_
   exact⟨F',bB,fx,hk,Apart.jE (I:=I) S' vm fi,r'.jE i0 ip fi⟩
end
noncomputable def putAll:St→List (Str×Slot)→St
 |st,[]=>st
 |st,p::r=>putAll (st.put (.v p.1) p.2) r
theorem kZ: ∀{L:List (Str×Slot)}{st:St}{k:fG},(∀p∈L,k≠ .v p.1)→(putAll st L).get k=st.get k:=by
 intro l_
 induction l_ with
 |nil=>intro Y Y Y;exact rfl
 |cons p r ih=>
  intro st k h
  exact ae (ih fun q hq=>h q (.tail _ hq)) ((St.eP ..).trans (ae (az (h p (.head _))) rfl))
theorem sI: ∀{L:List (Str×Slot)}{st:St}{p:Str×Slot},(L.map (·.1)).Nodup→p∈L→(putAll st L).get (.v p.1)=some p.2:=by
 intro l_
 induction l_ with
 |nil=>intro Y Y Y h;exact jZ h
 |cons q r ih=>
  intro st p hn h
  rw[bv,bC]at hn
  unfold putAll
  cases h with
  |head=>
   (rewrite[kZ];exact(St.eP ..).trans ((aF rfl)))
   intro q' R0 e
   injection e with e
   exact hn.1 (e▸List.mem_map_of_mem (f:=(·.1)) R0)
  |tail _ h=>exact ih hn.2 h
theorem yE{L L':List (Str×Slot)}(hn:(L.map (·.1)).Nodup)(Kc:(L'.map (·.1)).Nodup)(hm: ∀p,p∈L↔p∈L')(st:St)(k:fG):(putAll st L).get k=(putAll st L').get k:=by
 by_cases h: ∃p∈L,k= .v p.1
 .obtain⟨p,hp,rfl⟩:=h
  exact(sI hn hp).trans (ae (sI Kc ((hm p).mp hp)) rfl)
 .have h1: ∀p∈L,k≠ .v p.1:=fun p hp e=>h ⟨p,hp,e⟩
  exact(kZ h1).trans (ae (kZ fun p hp=>h1 p ((hm p).mpr hp)) rfl)
theorem wq: ∀{L:List (Str×Slot)}{st:St},(st.map (·.1)).Nodup→((putAll st L).map (·.1)).Nodup:=by
 intro l_
 induction l_ with
 |nil=>intro Y h;exact h
 |cons p r ih=>intro st h;exact ih (St.qp p.2 h)
theorem o9: ∀(L:List (Str×Slot))(st:St),d5 (putAll st L)=d5 st:=by
 intro l_
 induction l_ with
 |nil=>intro Y;exact rfl
 |cons p r ih=>intro st;exact(ih _).trans (s7 ..)
section
variable{Pr bj:FH}{aZ:Shared}{M O:Addr→Prop}{lv:Option Value}
theorem yM{bB:St}(hg: ∀k,bB.get k=st.get k):dh bB rv b↔dh st rv b:=by
 constructor<;>(rintro⟨k,sl,h1,r,r'⟩;refine⟨k,sl,?_,r,r'⟩)
 .exact ft (hg ..) h1
 .exact(hg ..).trans h1
theorem SR.congr{bB:St}(S:SR D F W env me st rv h)(hg: ∀k,bB.get k=st.get k)(hn:(bB.map (·.1)).Nodup)(hk:d5 bB=d5 st):SR D F W env me bB rv h:=
 ⟨S.fz,S.base,S.wf,S.wx,fun k s e=>S.sl k s (by exact ft (hg ..) e),fun k s e=>S.held k s (by exact ft (hg ..) e),fun k k' s s' a e1 e2=>S.dist k k' s s' a (by exact ft (hg ..) e1) (by exact ft (hg ..) e2),S.As,S.Gu,S.me,S.pw,
   ⟨hn,by exact ae hk S.ma.2⟩,S.mw,S.Bt,S.tn⟩
theorem cT.congr{bB:St}(r:cT cx env me Pr bj aZ M O lv F W st rv s)(hg: ∀k,bB.get k=st.get k):cT cx env me Pr bj aZ M O lv F W bB rv s:=
 ⟨r.sh,r.le,r.new,r.keep,r.alive,fun k t b e=>r.own k t b (by exact ft (hg ..) e),fun k t e=>r.kG k t (by exact ft (hg ..) e),r.mo,r.ml,r.wn,r.cw,fun b o e=>by obtain⟨a,b,c,d⟩:=r.pr b o e;exact⟨a,b,c,fun q=>d ((yM hg).mp q)⟩,r.mf⟩
theorem qW.stored{h h':Heap}{sl:Slot}{w v:Value}(y:qW D F W st rv me h t v)(lw: ∀u a,sl= .own u→w= .ref a→v≠ .ref a)(hs: ∀u,sl≠ .cK u∧sl≠ .ro u)(keep: ∀b o,¬W b→h.get? b=some o→h'.get? b=some o):
 qW D F W (st.put (.v x) sl) (rv.set (.v x) w) me h' t v:=by
 obtain⟨⟨a,rfl,hF,hW,hH,hm⟩,iG,hb,hx⟩:=y
 refine⟨⟨a,rfl,hF,hW,?_,hm⟩,f0.box hx (dG.refl _) iG fun b o e q=>by obtain rfl:=eM e;exact keep _ _ hW q,fun b e=>?_,hx⟩
 .rintro⟨k,s',e1,e2,e3⟩
  rw[St.eP]at e1
  unfold RV.set at e3
  split at e1
  .rename_i q
   rw[aF q]at e3
   obtain rfl:=b8 e1;obtain rfl:=b8 e3
   induction sl using Slot.casesOn with
   |own u=>exact lw u a rfl rfl rfl
   |cK u=>exact(hs u).1 rfl
   |ro u=>exact(hs u).2 rfl
   |_=>exact ew e2
  .rename_i q
   rw[az q]at e3
   exact hH ⟨k,s',e1,e2,e3⟩
 .obtain rfl:=eM e
  obtain⟨o,h1,h2⟩:=hb a rfl
  exact⟨o,keep _ _ hW h1,h2⟩
theorem wj(o:Bool)(t u:MV):fK o t≠ .cK u∧fK o t≠ .ro u:=by induction o using ag<;>exact⟨nofun,nofun⟩
noncomputable def kr(M:Model)(env:Env):List (Value→Sem Unit)→List Str→Prop
 | [],[]=>True
 |t::ts,x::xs=>(∀(A:Around)(E:Value→Shared→Prop)(v:Value)(Q:Unit→Shared→Prop)(s:Shared),wpAny M A (storeName env x v) Q E s→wpAny M A (t v) Q E s)∧kr M env ts xs
 |_,_=>False
structure Ld where
 x:Str
 o:Bool
 t:MV
 v:Value
noncomputable def Ld.sl(p:Ld):Str×Slot:=(p.x,fK p.o p.t)
theorem uH(hc:cy D n cx env): ∀(L:List Ld)(T:List (Value→Sem Unit)){st:St}{rv:RV}{s:Shared},kr (model D.prog D.w) env T (L.map (·.x))→SR D F W env me st rv s.heap→cT cx env me Pr bj aZ M O lv F W st rv s→
 (∀p∈L,env.kindOf p.x=some .local∨(env.kindOf p.x=some .cell∧ ∃c,env.cells.lookup p.x=some c∧W c))→(∀p∈L,hE D F W st rv me s.heap p.o p.t p.v)→(∀p∈L,p.o=true→ ∀a,p.v= .ref a→aZ.heap.get? a=none∧Pr a=none)→
 (L.Pairwise fun p q=>p.o=true→q.o=true→p.v≠q.v)→
 wpAny (model D.prog D.w) A (assignInOrder T (L.map (·.v))) (fun Y s'=> ∃fx,SR D F W env me (putAll st (L.map Ld.sl)) fx s'.heap∧cT cx env me Pr bj aZ M O lv F W (putAll st (L.map Ld.sl)) fx s') E s:=by
 intro L
 induction L with
 |nil=>
  intro T st rv s Y S r Y Y Y Y
  have:assignInOrder T ([]:List Value)=pure ():=by induction T using aO<;>rfl
  refine ae dw (Gx this ?_)
  exact av ⟨rv,S,r⟩
 |cons p L ih=>
  intro T st rv s h S r hk j0 hf hd
  induction T using aO with
  |nil=>exact h.elim
  |cons t T=>
   refine ae bv ?_
   rw[List.pairwise_cons]at hd
   have jI:=oQ (j0 p (.head _))
   have GG: ∀u a,fK p.o p.t= .own u→p.v= .ref a→aZ.heap.get? a=none∧Pr a=none:=fun u a e q=>hf p (.head _) (oP e) a q
   refine hb ((h.1 _ _ _ _ _ (gv hc.pl S (hk p (.head _)) jI fun h' tk S' k1 k2 al=>?_)))
   refine ih T (s:={ s with heap:=h',toks:=tk }) h.2 S' (r.store (x:=p.x) jI GG k1 al) (fun q hq=>hk q (.tail _ hq)) (fun q hq=>?_) (fun q hq=>hf q (.tail _ hq)) hd.2
   have GS:=j0 q (.tail _ hq)
   induction ho:q.o using ag with
   |false=>rw[ho]at GS;exact GS
   |true=>
    rw[ho]at GS
    refine qW.stored GS (fun u a e1 e2 e3=>?_) (fun u=>wj _ _ _) k1
    exact hd.1 q hq (oP e1) ho (by exact e2.trans (ae e3 rfl))
end
inductive G2:List Expr→List Str→Prop
 |nil:G2 [] []
 |cons {x p ts xs} (h:G2 ts xs):G2 (.Name x p::ts) (x::xs)
theorem Co{f:Expr→Option Str}(hf: ∀x p,f (.Name x p)=none∨f (.Name x p)=some x){ts:List Expr}{xs:List Str}(h:G2 ts xs):(ts.filterMap f).length=ts.length→ts.filterMap f=xs:=by
 induction h with
 |nil=>exact fun Y=>rfl
 | @cons x p r xs _ ih=>
   intro hl
   have GW:=List.length_filterMap_le f r
   rcases hf x p with q|q
   .rw[List.filterMap_cons,q]at hl
    exact absurd (hl▸GW) (Nat.not_succ_le_self _)
   .rw[List.filterMap_cons,q]at hl ⊢
    exact aB _ (ih (Nat.succ.inj hl))
theorem tN{ts es:List Expr}{xs:List Str}{a c:Nat}{b d:Pos}(ha:G2 ts xs)(hc:es.all (constantsAlone 8)=false):
 swappedStores [.Tuple ts a b] (.Tuple es c d) env=pure none∨swappedStores [.Tuple ts a b] (.Tuple es c d) env=pure (some xs):=by
 unfold swappedStores
 dsimp only
 split
 .left;rfl
 .split
  .left;rfl
  .split
   .left;rfl
   .rename_i q
    split
    .left;rfl
    .refine ae hc (ae (az cA) ?_)
     right
     have q1:(ts.filterMap _).length=ts.length:=Decidable.not_not.mp fun e=>q (by rw[bne_iff_ne.mpr e];rfl)
     have:=Co (fun x p=>by dsimp only;split<;>simp) ha q1
     exact ft this rfl
theorem z8{p:Str→Bool}(h:zB e p=true): ∃x q,e= .Name x q∧p x=true:=
 (iA h).elim id fun q=>ew q.2
theorem mi: ∀{ts:List Expr},fB ts=true→ ∃xs,G2 ts xs∧xs.Nodup:=by
 intro l_
 induction l_ with
 |nil=>exact fun Y=>⟨[],.nil,List.nodup_nil⟩
 |cons t r ih=>
  intro aP
  obtain⟨x,p,rfl,h⟩:=z8 aP
  clear aP
  obtain⟨h1,h2⟩:=au.mp h
  obtain⟨xs,i1,i2⟩:=ih h2
  refine⟨x::xs,.cons i1,bC.mpr ⟨fun hm=>?_,i2⟩⟩
  clear i2 h2 h ih
  induction i1 with
  |nil=>exact jZ hm
  | @cons y q r ys _ ih=>
    obtain⟨g1,g2⟩:=au.mp h1
    rcases aA.mp hm with e|hm
    .exact aj g1 e
    .exact ih g2 hm
section
variable{Pr bj:FH}{aZ:Shared}{M O:Addr→Prop}{lv:Option Value}
theorem jA{Md:Model}{ts:List Expr}{xs:List Str}(h:G2 ts xs):kr Md env ((PySem.assignEach ts env).map (·.2)) xs∧(PySem.assignEach ts env).length=ts.length∧(PySem.assignEach ts env).findIdx? (·.1)=none∧ts.length=xs.length:=by
 induction h with
 |nil=>exact⟨trivial,rfl,rfl,rfl⟩
 | @cons x p r xs _ ih=>
   obtain⟨i1,i2,i3,i4⟩:=ih
   refine⟨⟨fun A E v Q s hq=>wpAny_assign_Name hq,i1⟩,aB (· +1) i2,?_,aB (· +1) i4⟩
   refine(?_:List.findIdx? (·.1) ((false,_)::PySem.assignEach r env)=none)
   refine(List.findIdx?_cons).trans (ae i3 ?_);rfl
theorem we{Md:Model}: ∀(xs:List Str),kr Md env (xs.map fun x=>bindName env x) xs:=by
 intro l_
 induction l_ with
 |nil=>exact trivial
 |cons x xs ih=>exact⟨fun A E v Q s hq=>wpAny_bindName hq,ih⟩
theorem Aq{sl:Slot}{k:St→aH}(hc:cy D n cx env)(r: ∀x c,cx.sc.names.lookup x=some .cell→env.cells.lookup x=some c→W c)(h:gN cx x sl st k=some out):
 (env.kindOf x=some .local∨(env.kindOf x=some .cell∧ ∃c,env.cells.lookup x=some c∧W c))∧k (st.put (.v x) sl)=some out:=by
 unfold gN at h
 generalize q:cx.sc.names.lookup x=l at h
 induction l using ab with
 |none=>exact nn h
 |some l=>induction l using NameKind.casesOn with
  |«local»=>exact⟨.inl (hc.nl x q),(aJ h).2⟩
  |cell=>
   obtain⟨c,e⟩:=hc.cs x _ q (.inl rfl)
   exact⟨.inr ⟨hc.nc x q,c,e,r x c q e⟩,(aJ h).2⟩
  |_=>exact nn h
theorem hE.own(q:hE D F W st rv me h true t v): ∃a,v= .ref a:=by
 obtain⟨⟨a,e,Y⟩,Y⟩:=q
 exact⟨a,e⟩
theorem xx(hc:cy D n cx env)(r: ∀x c,cx.sc.names.lookup x=some .cell→env.cells.lookup x=some c→W c){k:St→aH}{ts:List Expr}{xs:List Str}(hx:G2 ts xs): ∀{as:List Arg}{vs:List Value}{ss:List Slot}{bB:St},assignEach cx ts ss bB k=some out→kq as=some ss→
 fT D F W st rv me h as vs→ ∃L:List Ld,L.map (·.x)=xs∧L.map (·.v)=vs∧(∀p∈L,env.kindOf p.x=some .local∨(env.kindOf p.x=some .cell∧ ∃c,env.cells.lookup p.x=some c∧W c))∧(∀p∈L,hE D F W st rv me h p.o p.t p.v)∧
  (∀p∈L,p.o=true→ ∀a,p.v= .ref a→a∈bU as vs)∧((bU as vs).Nodup→L.Pairwise fun p q=>p.o=true→q.o=true→p.v≠q.v)∧k (putAll bB (L.map Ld.sl))=some out:=by
 induction hx with
 |nil=>
  intro as vs ss bB hk hs hv
  obtain⟨rfl,hk⟩:=cm hk
  induction as using aO with
  |nil=>
   have e:vs=[]:=hv.inv
   clear hv
   subst e
   exact⟨[],rfl,rfl,fun Y q=>jZ q,fun Y q=>jZ q,fun Y q=>jZ q,fun Y=> .nil,hk⟩
  |cons a as=>induction a using Arg.casesOn with
   |kG _=>exact nn hs
   |val o t=>
    obtain⟨Y,Y,e⟩:=cu.mp hs
    exact absurd e (List.cons_ne_nil _ _)
 | @cons x p ts xs _ ih=>
   intro as vs ss bB hk hs hv
   obtain⟨y,p',e1,xp⟩:=eZ hk
   clear hk
   obtain⟨rfl,Y⟩:=Expr.Name.inj e1
   clear e1
   obtain⟨sl,ZX,e1,hk⟩:=bL xp
   clear xp
   subst e1
   induction as using aO with
   |nil=>exact absurd (Option.some.inj (hs:some []=_)).symm (List.cons_ne_nil _ _)
   |cons a as=>induction a using Arg.casesOn with
    |kG _=>exact nn hs
    |val o u=>
     obtain⟨v,lC,rfl,h1,h2⟩:=hv.inv
     clear hv
     obtain⟨ZH,Dj,e⟩:=cu.mp hs
     obtain⟨rfl,rfl⟩:=List.cons.inj e
     clear hs e
     obtain⟨Ax,M2⟩:=Aq hc r hk
     clear hk
     obtain⟨L,i1,i2,i3,i4,i5,i6,i7⟩:=ih M2 Dj h2
     clear M2 Dj h2 ih
     have hm:(∀b∈bU as lC,b∈bU (.val o u::as) (v::lC))∧((bU (.val o u::as) (v::lC)).Nodup→(bU as lC).Nodup)∧
      (o=true→ ∃a,v= .ref a∧a∈bU (.val o u::as) (v::lC)∧((bU (.val o u::as) (v::lC)).Nodup→a∉bU as lC)):=by
      clear i3 i4 i5 i6 i7 Ax
      induction o using ag with
      |false=>exact⟨fun Y q=>q,id,fun e=>ew e⟩
      |true=>
       obtain⟨a,rfl⟩:=hE.own h1
       exact⟨fun Y q=> .tail _ q,fun q=>(bC.mp q).2,fun Y=>⟨a,rfl,.head _,fun q=>(bC.mp q).1⟩⟩
     obtain⟨m1,m2,m3⟩:=hm
     refine⟨⟨x,o,u,v⟩::L,aB _ i1,aB _ i2,aN.mpr ⟨Ax,i3⟩,aN.mpr ⟨h1,i4⟩,aN.mpr ⟨fun e a q=>?_,fun p hp e a q=>m1 a (i5 p hp e a q)⟩,fun tz=>List.pairwise_cons.mpr ⟨fun q hq e1 e2 e3=>?_,i6 (m2 tz)⟩,i7⟩
     .obtain⟨b,e1,e2,Y⟩:=m3 e
      obtain rfl:=Value.ref.inj (e1.symm.trans q)
      exact e2
     .obtain⟨b,e4,Y,e5⟩:=m3 e1
      exact e5 tz (i5 q hq e2 b (e3.symm.trans e4))
end
section
variable{Pr bj:FH}{aZ:Shared}{M O:Addr→Prop}{lv:Option Value}
theorem uF(hc:cy D n cx env){L L':List Ld}{T:List (Value→Sem Unit)}{k:St→aH}(hp:L'=L∨L'=L.reverse)(hT:kr (model D.prog D.w) env T (L'.map (·.x)))(S:SR D F W env me st rv s.heap)(r:cT cx env me Pr bj aZ M O lv F W st rv s)
 (hk: ∀p∈L,env.kindOf p.x=some .local∨(env.kindOf p.x=some .cell∧ ∃c,env.cells.lookup p.x=some c∧W c)) (j0: ∀p∈L,hE D F W st rv me s.heap p.o p.t p.v) (hf: ∀p∈L,p.o=true→ ∀a,p.v= .ref a→aZ.heap.get? a=none∧Pr a=none)
 (hd:L.Pairwise fun p q=>p.o=true→q.o=true→p.v≠q.v) (tz:(L.map (·.x)).Nodup) (KI:k (putAll st (L.map Ld.sl))=some out):
 wpAny (model D.prog D.w) A (assignInOrder T (L'.map (·.v))) (fun Y=>ee D cx env me Pr bj aZ M O lv W k out .next) E s:=by
 have Ny: ∀p,p∈L'↔p∈L:=fun p=>by clear hT hk j0 hf hd tz KI;rcases hp with rfl|rfl<;>simp
 have lF:L'.Pairwise fun p q=>p.o=true→q.o=true→p.v≠q.v:=by
  clear hT hk j0 hf tz KI Ny;rcases hp with rfl|rfl
  .exact hd
  .rw[List.pairwise_reverse];exact hd.imp fun h e1 e2 e3=>h e2 e1 e3.symm
 have hx: ∀l:List Ld,(l.map Ld.sl).map (·.1)=l.map (·.x):=fun l=>by exact List.map_map.trans rfl
 have UL:(L'.map (·.x)).Nodup:=by
  rcases hp with rfl|rfl
  .exact tz
  .exact ae List.map_reverse (List.pairwise_reverse.mpr (tz.imp Ne.symm))
 refine wm (uH hc L' T hT S r (fun p q=>hk p ((Ny p).mp q)) (fun p q=>j0 p ((Ny p).mp q)) (fun p q=>hf p ((Ny p).mp q)) lF) ?_
 rintro Y s' ⟨fx,S',r'⟩
 have hg: ∀k,(putAll st (L.map Ld.sl)).get k=(putAll st (L'.map Ld.sl)).get k:=fun k=>
  yE (by exact ae (hx ..) tz) (by exact ae (hx ..) UL) (fun p=>by simp only[List.mem_map,Ny]) st k
 exact⟨F,_,fx,KI,S'.congr hg (wq S.ma.1) (by exact(o9 ..).trans (ae (o9 ..) rfl)),r'.congr hg⟩
theorem nU{ts:List Expr}{a:Nat}{b:Pos}{iP:Expr}{line:Nat}:swapsWithSole [.Tuple ts a b] iP line env=pure false:=by
 refine(?_:swapsWith iP (some (.Tuple ts a b)) line env=pure false)
 exact l7 fun x p q=>(nomatch q)
theorem xF{h':Heap}{o:Bool}(hr:hE D F W st rv me s.heap o t v)(hk: ∀b o,s.heap.get? b=some o→h'.get? b=some o):hE D F W st rv me h' o t v:=
 hE.step (s':={ s with heap:=h' }) hr (dU.same (t:=s.toks) hk)
theorem B3(hR:d4 D n R)(ha:ey A n)(hc:cy D n cx env)(S:SR D F W env me st rv s.heap)(r:cT cx env me Pr bj aZ M O lv F W st rv s){ts es:List Expr}{a c:Nat}{b d pos:Pos}{k:St→aH}
 (h:(bif(fB ts&&decide (ts.length<20))&&(!es.all (constantsAlone 8)&&er es)then eH (R cx) cx [] es st fun as st=>(kq as).bind fun ss=>assignEach cx ts ss st k else none)=some out):
 wpAny (model D.prog D.w) A (exec (.Assign [.Tuple ts a b] (.Tuple es c d) pos) env) (ee D cx env me Pr bj aZ M O lv W k out) E s:=by
 obtain⟨hq,h⟩:=aJ h
 obtain⟨hq,R0⟩:=au.mp hq
 obtain⟨He,gh⟩:=au.mp hq
 obtain⟨Ot,Y⟩:=au.mp R0
 have gh:=aj gh
 rw[Bool.not_eq_true']at Ot
 obtain⟨xs,BK,tz⟩:=mi He
 clear hq R0 He
 obtain⟨f1,f2,f3,f4⟩:=jA (Md:=model D.prog D.w) (env:=env) BK
 have NQ:=fQ
 have EI: ∀vs bk,TL D F W env me st rv s (fun as bB=>(kq as).bind fun ss=>assignEach cx ts ss bB k) out vs bk→
  ∃L:List Ld,L.map (·.x)=xs∧L.map (·.v)=vs∧vs.length=xs.length∧ ∀(L':List Ld)(T:List (Value→Sem Unit))(h':Heap)(tk:Nat),L'=L∨L'=L.reverse→kr (model D.prog D.w) env T (L'.map (·.x))→(∀b o,bk.heap.get? b=some o→h'.get? b=some o)→
   wpAny (model D.prog D.w) A (assignInOrder T (L'.map (·.v))) (fun Y=>ee D cx env me Pr bj aZ M O lv W k out .next) E { bk with heap:=h',toks:=tk }:=by
  rintro vs bk ⟨bK,as,aR,aP,bX,bh,hv,hn,Tj⟩
  obtain⟨ss,Yu,aP⟩:=cL aP
  have r₁:=r.ev bX S bh
  obtain⟨L,i1,i2,i3,i4,i5,i6,i7⟩:=xx (W:=W) hc r₁.cw BK aP Yu hv
  refine⟨L,i1,i2,by rw[←i1,←i2,ai,ai],fun L' T h' tk hp hT hk=>?_⟩
  refine uF (s:={ bk with heap:=h',toks:=tk }) hc hp hT (bh.ext hk) (r₁.grow hk) i3 (fun p hp=>xF (i4 p hp) hk) (fun p hp e a q=>?_) (i6 Tj) (by exact ae i1 tz) i7
  have:=(hn a (i5 p hp e a q)).1
  exact⟨r.e7 this,r.mv this⟩
 rcases tN (env:=env) (a:=a) (b:=b) (c:=c) (d:=d) BK Ot with hw|hw
 .refine Assign_Tuple (Tuple_ (wm (fR hR ha hc d es [] h S) ?_)) nU hw
  intro vs bk D0
  obtain⟨L,i1,i2,i3,fin⟩:=EI vs bk D0
  refine wpAny_newTuple ?_ (by lia)
  have ht:(bk.heap.push { cls:= .type "tuple",data:= .seq vs.toArray }).IsTuple bk.heap.objs.size vs.toArray:=⟨_,bt _ rfl,rfl,_,rfl⟩
  refine wpAny_assign_Tuple (s:={ bk with heap:=bk.heap.push { cls:= .type "tuple",data:= .seq vs.toArray }}) ha.hh ht (f2.trans (f4.trans i3.symm)) f3 fun h' hx=>?_
  have:=fin L ((PySem.assignEach ts env).map (·.2)) h' bk.toks (.inl rfl) (by rw[i1];exact f1) fun b o e=>hx b o (dq (cr (bq _ e))) (bq _ e)
  rw[i2]at this
  exact this
 .refine Assign_Tuple_swapped (Tuple_ (wm (fR hR ha hc d es [] h S) ?_)) nU hw
  intro vs bk D0
  obtain⟨L,i1,i2,i3,fin⟩:=EI vs bk D0
  refine wpAny_newTuple ?_ (by lia)
  have ht:IsTup (bk.heap.push { cls:= .type "tuple",data:= .seq vs.toArray }) bk.heap.objs.size vs.toArray:=⟨_,bt _ rfl,rfl,_,rfl⟩
  refine ae (i3.symm:xs.length=vs.toArray.size) ?_
  refine unpackItems_tuple (s:={ bk with heap:=bk.heap.push { cls:= .type "tuple",data:= .seq vs.toArray }}) ha.hh ht fun h' hx=>?_
  have:=fin L.reverse (xs.reverse.map fun x=>bindName env x) h' bk.toks (.inr rfl) (by rw[show L.reverse.map (·.x)=xs.reverse by rw[List.map_reverse,i1]];exact we _) fun b o e=>hx b o (dq (cr (bq _ e))) (bq _ e)
  rw[show L.reverse.map (·.v)=vs.reverse by exact List.map_reverse.trans (ae i2 rfl)]at this
  exact this
theorem yY: ∀{us:List MV}{vs:List Value},D.dm F us vs→kq (us.map (.val false))=some (us.map .aw)∧fT D F W st rv me h (us.map (.val false)) vs∧bU (us.map (.val false)) vs=[]:=by
 intro l_
 induction l_ with
 |nil=>intro Y x;obtain rfl:=dm.none x;exact⟨rfl,.nil,rfl⟩
 |cons u us ih=>
  intro Y x
  obtain⟨v,lC,rfl,q1,q2⟩:=dm.lh x
  obtain⟨i1,i2,i3⟩:=ih q2
  exact⟨(aB (Option.map _) i1:_),.cons q1 i2,i3⟩
theorem B4(hR:d4 D n R)(ha:ey A n)(hc:cy D n cx env)(S:SR D F W env me st rv s.heap)(r:cT cx env me Pr bj aZ M O lv F W st rv s){ts:List Expr}{a:Nat}{b pos:Pos}{k:St→aH}(lw: ∀es c d,e≠ .Tuple es c d)
 (h:(bif fB ts then(R cx e st fun Y t st=>dT t fun us=>bif decide (ts.length=us.length)then assignEach cx ts (us.map .aw) st k else none)else none)=some out):
 wpAny (model D.prog D.w) A (exec (.Assign [.Tuple ts a b] e pos) env) (ee D cx env me Pr bj aZ M O lv W k out) E s:=by
 obtain⟨He,h⟩:=aJ h
 obtain⟨xs,BK,tz⟩:=mi He
 obtain⟨f1,f2,f3,f4⟩:=jA (Md:=model D.prog D.w) (env:=env) BK
 refine Assign_Tuple (wm (hR.aw h ha hc S) ?_) nU (by induction e using Expr.casesOn<;>first|rfl|exact absurd rfl (lw _ _ _))
 rintro v bk ⟨bK,t,aR,aP,bX,bh,hv⟩
 obtain⟨us,rfl,aP⟩:=EG aP
 obtain⟨hl,aP⟩:=aJ aP
 have hl:ts.length=us.length:=aj hl
 have r₁:=r.ev bX S bh
 obtain⟨t,m,vs,rfl,ho,gD⟩:=Lc (D:=D) bh.fz hv
 have Kd:vs.length=us.length:=dm.length gD
 obtain⟨g1,g2,g3⟩:=yY (W:=W) (st:=aR) (rv:=rv) (me:=me) (h:=bk.heap) gD
 obtain⟨L,i1,i2,i3,i4,i5,i6,i7⟩:=xx (W:=W) hc r₁.cw BK aP g1 g2
 have ht:bk.heap.IsTuple t vs.toArray:=⟨_,ho,rfl,_,rfl⟩
 refine wpAny_assign_Tuple ha.hh ht (f2.trans (hl.trans Kd.symm)) f3 fun h' hx=>?_
 have hk: ∀b o,bk.heap.get? b=some o→h'.get? b=some o:=fun b o e=>hx b o (dq (cr e)) e
 have:=uF (s:={ bk with heap:=h' }) (A:=A) (E:=E) (L':=L) (T:=(PySem.assignEach ts env).map (·.2)) hc (.inl rfl) (by exact ae i1 f1) (bh.ext hk) (r₁.grow (tk:=bk.toks) hk) i3 (fun p hp=>xF (i4 p hp) hk) (fun p hp e a q=>jZ (g3▸i5 p hp e a q)) (i6 (by exact ae g3 List.nodup_nil)) (by exact ae i1 tz) i7
 rw[i2]at this
 exact this
theorem Hs(hn:20≤n)(ha:ey A n)(hc:cy D n cx env)(S:SR D F W env me st rv s.heap)(r:cT cx env me Pr bj aZ M O lv F W st rv s){px pos:Pos}{k:St→aH}
 (h:(ev m cx e st fun o t st=>gN cx x (fK o t) st k)=some out):wpAny (model D.prog D.w) A (exec (.Assign [.Name x px] e pos) env) (ee D cx env me Pr bj aZ M O lv W k out) E s:=by
 have plain:swapsWith e (some (.Name x px)) pos.line env=pure false→wpAny (model D.prog D.w) A (exec (.Assign [.Name x px] e pos) env) (ee D cx env me Pr bj aZ M O lv W k out) E s:=fun hs=>by
  refine wpAny_Assign_Name (wm ((iC hn m h).2 ha hc S) ?_) hs
  rintro v bk ⟨bK,o,t,aR,aP,bX,bh,hr,hf⟩
  refine CY hc bh (r.ev bX S bh) hr (fun e a q=>?_) aP
  have:=hf e a q
  exact⟨r.e7 this,r.mv this⟩
 induction e using Expr.casesOn with
 |ListComp qV gens sc p=>
  induction hb:(env.blockKind== .function&&env.kindOf x==some .local&&px.line==(Expr.ListComp qV gens sc p).pos.line&& !(sc.names.any fun(n,k)=>n==x&&(k== .local||k== .cell)))using ag with
  |false=>exact plain (by refine(?_:(pure _:Sem Bool)=_);exact ae hb rfl)
  |true=>
   have hs:swapsWith (.ListComp qV gens sc p) (some (.Name x px)) pos.line env=pure true:=by refine(?_:(pure _:Sem Bool)=_);exact ae hb rfl
   refine Gx (exec_Assign_Name_used _ _ _ _ hs) (ae (arm_evalThenUse_ListComp ..) ?_)
   clear plain hb hs;induction m using Nat.casesOn with
   |zero=>exact nn h
   |succ m=>
    obtain⟨g,gs,rfl,g⟩:=bL h;clear h
    obtain⟨rfl,h⟩:=cm g;clear g
    obtain⟨tg,iter,ifs,TH⟩:=g
    obtain⟨y,py,hx,g⟩:=eZ h;clear h
    have h:=g;clear g
    obtain⟨h1,h⟩:=aJ h
    have h1:=aj h1
    subst hx h1
    .refine ak (wpAny_standAt (ak ?_))
     refine ak (wpAny_mono (pc (k:=fun o t st=>gN cx x (fK o t) st k) (Q:=fun Y=>ee D cx env me Pr bj aZ M O lv W k out .next) (use:=some (assign (.Name x px) env)) (iC hn m) hc ha S h fun us acc C bk s' bK aR hk P bh ce=>?_) (fun Y s' hq=>av (av hq)) fun Y Y e=>e)
     exact u0 hc S r hk P bh ce
 |DictComp kx vx gens sc p=>
  induction hb:(env.blockKind== .function&&env.kindOf x==some .local&&px.line==(Expr.DictComp kx vx gens sc p).pos.line&& !(sc.names.any fun(n,k)=>n==x&&(k== .local||k== .cell)))using ag with
  |false=>exact plain (by refine(?_:(pure _:Sem Bool)=_);exact ae hb rfl)
  |true=>
   have hs:swapsWith (.DictComp kx vx gens sc p) (some (.Name x px)) pos.line env=pure true:=by refine(?_:(pure _:Sem Bool)=_);exact ae hb rfl
   refine Gx (exec_Assign_Name_used _ _ _ _ hs) (ae (arm_evalThenUse_DictComp ..) ?_)
   clear plain hb hs;induction m using Nat.casesOn with
   |zero=>exact nn h
   |succ m=>
    obtain⟨g,gs,rfl,g⟩:=bL h;clear h
    obtain⟨rfl,h⟩:=cm g;clear g
    obtain⟨tg,iter,ifs,TH⟩:=g
    obtain⟨y,py,hx,g⟩:=eZ h;clear h
    obtain⟨hi,h⟩:=cm g;clear g
    obtain⟨h1,h⟩:=aJ h
    have h1:=aj h1
    subst hx h1 hi
    .refine ak (wpAny_standAt (ak ?_))
     refine ak (wpAny_mono (pi (k:=fun o t st=>gN cx x (fK o t) st k) (Q:=fun Y=>ee D cx env me Pr bj aZ M O lv W k out .next) (use:=some (assign (.Name x px) env)) (iC hn m) hc ha S h fun nn ks us acc C bk s' bK aR hk P bh ce=>?_) (fun Y s' hq=>av (av hq)) fun Y Y e=>e)
     exact u0 hc S r hk P bh ce
 |SetComp qV gens sc p=>induction m using Nat.casesOn<;>exact nn h
 |_=>exact plain rfl
end
section
variable{Pr bj:FH}{aZ:Shared}{M O:Addr→Prop}{lv:Option Value}
theorem B8{c j t:MV}{vj vt:Value}{k:MV→aH}(h:G4 c j t k=some out)(iG:D.f0 F s.heap.get? c (.ref a))(hj:D.VR F j vj)(ht:D.VR F t vt){Q:Unit→Shared→Prop}
 (hq: ∀h' tk c' o,k c'=some out→D.f0 F h'.get? c' (.ref a)→fS c'=true→(∀b o,b≠a→s.heap.get? b=some o→h'.get? b=some o)→h'.get? a=some o→o.dict=none→Q () { s with heap:=h',toks:=tk }):
 wpAny (model D.prog D.w) A (setItem (.ref a) vj vt) Q E s:=by
 unfold G4 at h
 obtain⟨i,rfl,h⟩:=dE h
 obtain⟨tk,rfl⟩:=gj (D:=D) hj
 induction c using MV.casesOn with
 |list ts=>
  obtain⟨YV,h⟩:=aJ h
  obtain⟨h0,h1,h2⟩:=wa YV
  obtain⟨b,m,vs,e,ho,gD,hz⟩:=gf iG
  obtain rfl:=eM e
  have hl:vs.length=ts.length:=dm.length gD
  refine ki_setAt ho h0 h2 (by rw[List.size_toArray,hl];exact h1) ?_
  obtain⟨m',h3⟩: ∃m',(s.heap.update a (Obj.mapSeq (·.setIfInBounds i.toNat vt))).get? a=some (listOf (vs.set i.toNat vt).toArray m'):=⟨_,by
   rw[Heap.get?_update_self (Obj.mapSeq (·.setIfInBounds i.toNat vt)) ho rfl]
   simp only[Obj.mapSeq,List.setIfInBounds_toArray]
   rfl⟩
  exact hq _ s.toks _ _ h ⟨vs.set i.toNat vt,⟨a,m',rfl,h3,(by rw[cP,hl];exact hz)⟩,dm.set _ gD ht⟩ rfl (fun b o hb e=>(Heap.get?_update_other _ _ (Ne.symm hb)).trans e) h3 rfl
 |dict nn ks ts=>
  obtain⟨hz,h⟩:=aJ h
  have hz:nn≤1000000:=aj hz
  obtain⟨vs,⟨b,o,gt,e,ho,hd,rfl,rfl,Z9⟩,gD⟩:=iG
  obtain rfl:=eM e
  have NQ:=fQ
  refine wpAny_setItem_pairs (hsz:=by lia) (knd:=intKind D.prog D.w) (intKind_is _ _ _ _) (Heap.dictOf_iff.mpr ⟨o,ho,hd⟩) fun h' lF hs=>?_
  obtain⟨o',tw,Hf⟩:=Heap.dictOf_iff.mp lF
  obtain⟨e1,e2⟩:=qJ (k:=i) ht hd.choose_spec.choose_spec.2.2.2.2 gD
  have mz:=stored_length_le gt i vt
  exact hq h' _ _ o' h ⟨_,⟨a,o',stored gt i vt,rfl,tw,Hf,e1,rfl,by lia⟩,e2⟩ rfl (fun b o hb e=>(hs.2 b hb).trans e) tw Hf.choose_spec.choose_spec.1.2.1
 |_=>exact nn h
theorem Lf(hR:d4 D n R)(ha:ey A n)(hc:cy D n cx env)(S:SR D F W env me st rv s.heap)(r:cT cx env me Pr bj aZ M O lv F W st rv s){c i e:Expr}{p pos:Pos}{k:St→aH}
 (h:(R cx e st fun Y t st=>(gM cx st c).bind fun x=>R cx i st fun Y j st=>(vA (st.get x)).bind fun c=>G4 c j t fun c'=>k (st.mr x c'))=some out):
 wpAny (model D.prog D.w) A (exec (.Assign [.Subscript c i p] e pos) env) (ee D cx env me Pr bj aZ M O lv W k out) E s:=by
 refine wpAny_Assign_Subscript (wm (hR.aw h ha hc S) ?_) (l7 fun x p q=>(nomatch q))
 rintro vt bk ⟨bK,t,aR,aP,bX,bh,Yj⟩
 obtain⟨x,hx,aP⟩:=cL aP
 obtain⟨IZ,sl,mz,Ke⟩:=oV hx
 obtain⟨a,BD,Zi,Y⟩:=bh.held x sl mz Ke
 refine lY hc bh IZ BD rfl fun tk=>?_
 have Rs:SR D bK W env me aR rv ({ bk with toks:=tk }:Shared).heap:=bh
 refine wm (hR.aw (s:={ bk with toks:=tk }) aP ha hc Rs) ?_
 rintro vj d3 ⟨fW,j,eD,dy,fC,eT,Yl⟩
 obtain⟨DE,hm,dy⟩:=cL dy
 have K6:dU F st rv s fW eD d3:=bX.trans ((dU.same (t:=tk) fun Y Y q=>q).trans fC)
 have r₂:=r.ev K6 S eT
 obtain⟨wQ,a',q1,q2,q4,q5,Hg,Y⟩:=xB eT hm
 obtain rfl:=eM (dZ BD q4)
 clear hm q4 Zi mz Ke hx IZ
 refine B8 dy Hg Yl (VR.mono fC.le Yj) ?_
 intro h' n9 c' o' hk D3 NK keep Kc lF
 have Dy:eD.mr x c'=eD.put x (wQ.with c'):=by unfold St.mr;rw[q1]
 have m6:=eT.qo q1 q2 BD (dG.refl _) (fun b ob e=>keep b ob (fun q=>fU (q▸q5) e) (eT.fz b ob e)) (fun Y Y e=> .inl e) (fun b ob e ne Y=>keep b ob ne e) D3 (fun b e=>eM e▸⟨o',Kc,lF⟩) NK
 exact⟨fW,_,rv,Dy▸hk,m6,r₂.ev (dU.qo (s:=d3) (tk:=n9) q1 q2 BD keep Kc) eT m6⟩
end
theorem kz{a:Str}:v.isStr a=true↔gk v=some a:=by
 induction v using Value.casesOn<;>simp[Value.isStr,gk]
theorem tT{a:Str}{ql:Int}{tk:Tok}: ∀(es:List DictEntry),getL a (putL a ql (.str a tk) v es)=some (some v):=by
 intro l_
 induction l_ with
 |nil=>unfold putL getL;simp[Value.isStr]
 |cons e r ih=>
  unfold putL
  split
  .rename_i q;unfold getL;simp only[List.find?_cons,q]
  .rename_i q
   have ih:=ih
   unfold getL at ih ⊢
   rw[Bool.not_eq_true]at q
   simp only[List.find?_cons,q]
   revert ih
   induction hf:(putL a ql (.str a tk) v r).find? (·.key.isStr a)using ab with
   |some e'=>exact id
   |none=>intro ih;try dsimp only at ih;split at ih<;>cases ih
theorem xH{a x:Str}{ql:Int}{tk:Tok}(hx:x≠a): ∀(es:List DictEntry),(putL a ql (.str a tk) v es).find? (·.key.isStr x)=es.find? (·.key.isStr x)∧(putL a ql (.str a tk) v es).any (·.refKey)=es.any (·.refKey):=by
 intro l_
 induction l_ with
 |nil=>
  unfold putL
  have hn:(Value.str a tk).isStr x=false:=by
   induction q:(Value.str a tk).isStr x using ag with
   |false=>rfl
   |true=>rw[kz]at q;simp[gk]at q;exact absurd q.symm hx
  exact⟨by simp only[List.find?_cons,hn],by simp[DictEntry.refKey]⟩
 |cons e r ih=>
  obtain⟨i1,i2⟩:=ih
  unfold putL
  split
  .rename_i q
   have hn:e.key.isStr x=false:=by
    clear i1;induction z:e.key.isStr x using ag with
    |false=>rfl
    |true=>rw[kz]at q z;obtain rfl:=dZ q z;exact absurd rfl hx
   refine⟨?_,?_⟩
   .simp only[List.find?_cons,hn]
   .exact bO.trans (ae bO rfl)
  .refine⟨?_,by exact bO.trans (ae bO (ae i2 rfl))⟩
   induction IY:e.key.isStr x using ag with
   |true=>simp only[List.find?_cons,IY]
   |false=>simp only[List.find?_cons,IY,i1]
theorem tf{a x:Str}{ql:Int}{tk:Tok}(hx:x≠a)(es:List DictEntry):getL x (putL a ql (.str a tk) v es)=getL x es:=by
 unfold getL;exact ae ((xH hx es).1) (ae ((xH hx es).2) rfl)
theorem Cf{a:Str}{ql:Int}{tk:Tok}{f g:Str→Option Value}(hg: ∀x,g x=if x=a then some v else f x): ∀{es:List DictEntry}{ns:List Str},ns.Nodup→es.map (fun e=>gk e.key)=ns.map some→es.map (fun e=>some e.val)=ns.map f→
 (putL a ql (.str a tk) v es).map (fun e=>gk e.key)=(if a∈ns then ns else ns++[a]).map some∧(putL a ql (.str a tk) v es).map (fun e=>some e.val)=(if a∈ns then ns else ns++[a]).map g:=by
 have ga:g a=some v:=(hg a).trans (aF rfl)
 intro es
 induction es with
 |nil=>
  intro ns _ h1 _
  obtain rfl:ns=[]:=List.map_eq_nil_iff.mp h1.symm
  exact⟨rfl,aB (fun z=>[z]) ga.symm⟩
 |cons e r ih=>
  intro ns hn h1 h2
  induction ns using aO with
  |nil=>exact nomatch h1
  |cons x ns=>
   obtain⟨a1,a2⟩:=List.cons.inj (h1:gk e.key::r.map _=some x::ns.map some)
   obtain⟨b1,b2⟩:=List.cons.inj (h2:some e.val::r.map _=f x::ns.map f)
   obtain⟨n1,n2⟩:=bC.mp hn
   clear h1 h2 hn
   by_cases q:e.key.isStr a=true
   .obtain rfl:x=a:=b8 (a1.symm.trans (kz.mp q))
    rw[show putL x ql (.str x tk) v (e::r)=_ from aF q,aF (List.mem_cons_self)]
    refine⟨congr (aB List.cons a1) a2,congr (aB List.cons ga.symm) (b2.trans (List.map_congr_left fun y hy=>?_))⟩
    exact((hg y).trans (az fun e:y=x=>n1 (e▸hy))).symm
   .have hx:x≠a:=fun e=>q (kz.mpr (e▸a1))
    obtain⟨i1,i2⟩:=ih n2 a2 b2
    have e0:(if a∈x::ns then x::ns else(x::ns)++[a])=x::(if a∈ns then ns else ns++[a]):=by
     by_cases z:a∈ns
     .exact(aF (.tail _ z)).trans (aB _ (aF z).symm)
     .exact(az fun y=>(aA.mp y).elim (fun e=>hx e.symm) z).trans (aB (List.cons x) (az z).symm)
    rw[show putL a ql (.str a tk) v (e::r)=_ from az q,e0]
    exact⟨congr (aB List.cons a1) i1,congr (aB List.cons (b1.trans ((hg x).trans (az hx)).symm)) i2⟩
theorem Ff{a:Str}{ql:Int}{key v:Value}: ∀(es:List DictEntry),(putL a ql key v es).length≤es.length+1:=by
 intro l_
 induction l_ with
 |nil=>unfold putL;simp
 |cons e r ih=>
  unfold putL
  split
  .simp
  .have:=ih
   simp;assumption
theorem md: ∀{st:St},(st.map (·.1)).Nodup→(d5 st).Nodup
 | [],_=>List.nodup_nil
 |(.v x,_)::r,h=>by rw[bv,bC]at h;exact md (st:=r) h.2
 |(.a x,_)::r,h=>by
  rw[bv,bC]at h
  refine bC.mpr ⟨fun hm=>h.1 ?_,md h.2⟩
  rw[gP]at hm
  clear h;obtain⟨k,hk,e⟩:=List.mem_filterMap.mp hm
  clear hm;induction k using fG.casesOn with
  |a y=>obtain rfl:=b8 e;exact hk
  |v y=>exact nn e
theorem s8(st:St)(a:Str)(sl:Slot):d5 (st.put (.a a) sl)=if a∈d5 st then d5 st else d5 st++[a]:=by
 induction q:st.get (.a a)using ab with
 |some aZ=>
  have hm:a∈d5 st:=by
   refine ae (gP ..) ?_
   refine List.mem_filterMap.mpr ⟨.a a,?_,rfl⟩
   exact List.mem_map_of_mem (f:=(·.1)) (d9 q)
  exact ae (aF hm) ((gP ..).trans (ae (gP ..) (ae (St.f8 sl q) rfl)))
 |none=>
  have hm:a∉d5 st:=by
   refine ae (gP ..) ?_
   intro h
   obtain⟨k,hk,e⟩:=List.mem_filterMap.mp h
   clear h;induction k using fG.casesOn with
   |a y=>obtain rfl:=b8 e;exact St.get_none q hk
   |v y=>exact nn e
  exact ae (az hm) ((gP ..).trans (ae (gP ..) (ae (St.mx sl q) (List.filterMap_append.trans rfl))))
section
variable{prog:Program}{w:World}
set_option tactic.hygienic true in
theorem store_attr{K:Frag}{x C d:Addr}{es:List DictEntry}{a:Str}(X:K.In s.heap)(h1:s.heap.get? x=some (instObj C d))(h2:s.heap.get? d=some (dictOf es n))(ok:r9 K C a)(hl:(getL a es).isSome=true)(hz:es.length≤900){Q:Unit→Shared→Prop}
 (hq: ∀h' tk ql t n',h'.get? d=some (dictOf (putL a ql (.str a t) v es) n')→(∀b o,b≠d→s.heap.get? b=some o→h'.get? b=some o)→Q () { s with heap:=h',toks:=tk }):
 wpAny (model prog w) A (setAttr (.ref x) a v) Q E s:=by
 have I:InstAt s.heap x (instObj C d) C (some (dictOf es n)):=⟨h1,rfl,rfl,h2⟩
 refine set_plain X I ok.sa ?_
 refine osa_open (s:={ s with toks:=s.toks+1 }) X I ok.po ok.tk fun b=>?_
 obtain⟨cd,hc,lF⟩:=any_some ok.hd
 refine pb ((bb ((wpAny_loadPart h1 (ak (Looks.here (s:={ s with toks:=s.toks+1 }) (looks_clsIn X hc) ?_))))))
 refine ae lF ?_
 refine av (a:=some d) (pb ((ak ?_)))
 unfold nsSet
 refine ak (ak (wpAny_askSetting (av (ak (wpAny_mkText (ak (wpAny_loadPart h2 ?_)))))))
 have c:(!es.toArray.any (·.key.isStr a)&&es.toArray.any (·.refKey))=false:=by
  refine ft Array.any_toList (ft Array.any_toList ?_)
  unfold getL at hl
  split at hl
  .rename_i en he
   refine ae (cg.mpr ⟨en,List.mem_of_find?_eq_some he,List.find?_some he⟩) ?_;rfl
  .split at hl
   .exact ew hl
   .rename_i z;rw[Bool.not_eq_true]at z;exact ae z ((Bool.and_false ..))
 have e1:=putName_dict a (PyData.keyHash w.params a) (.str a (s.toks+1)) v es n
 have u1:=Heap.get?_update_self (Obj.putName a (PyData.keyHash w.params a) (.str a (s.toks+1)) v) h2 (by exact ae e1 rfl)
 rw[e1]at u1
 dsimp only[dictOf]
 refine ae (aRefKeyMayBeTheName_at ..) (ae c ?_)
 refine wpAny_updatePart h2 ?_
 have gh:=Ff (a:=a) (ql:=PyData.keyHash w.params a) (key:= .str a (s.toks+1)) (v:=v) es
 refine ak (wpAny_lookBehind u1 (pastItsLine_dict (by refine ae List.size_toArray (ae sizeLine_eq ?_);lia)) ?_)
 exact av (hq _ _ _ _ _ u1 fun b o hb e=>(Heap.get?_update_other _ _ (Ne.symm hb)).trans e)
end
section
variable{Pr bj:FH}{aZ:Shared}{M O:Addr→Prop}{lv:Option Value}
theorem SU{α β γ:Type}{a a':α}{b b':β}{c c':γ}(h:some (a,b,c)=some (a',b',c')):a=a'∧b=b'∧c=c':=by
 cases h
 exact⟨rfl,rfl,rfl⟩
theorem SR.Gw{h h':Heap}(S:SR D F W env me st rv h){a:Str}{sl:Slot}{i C d:Addr}{es:List DictEntry}{Du Dt:Nat}{ql:Int}{t:Tok}(oe:me=some (i,C,d))(hd:h.get? d=some (dictOf es Du))
 (lF:h'.get? d=some (dictOf (putL a ql (.str a t) v es) Dt)) (hk: ∀b o,b≠d→h.get? b=some o→h'.get? b=some o) (qD:es.map (fun e=>gk e.key)=(d5 st).map some) (xk:es.map (fun e=>some e.val)=(d5 st).map fun x=>rv (.a x))
 (hn:gO D F W st rv me h sl v):SR D F W env me (st.put (.a a) sl) (rv.set (.a a) v) h':=by
 obtain⟨hi,Zh,Tt,Y⟩:=S.me i C d oe
 have Tk:=S.mw i C d oe
 have Y3: ¬dh st rv d:=fun⟨k,s',e,hh,hr⟩=>by
  obtain⟨b,h1,Y,Y,h4⟩:=S.held k s' e hh
  obtain rfl:=eM (dZ hr h1)
  exact(h4 i C d oe).2 rfl
 have R3:i≠d:=fun q=>by rw[q,hd]at hi;cases hi
 obtain⟨p1,p2,p3⟩:=S.put3 (x:= .a a) (c:=d) Y3 (fun t e z=>by
  subst e
  obtain⟨⟨b,rfl,Y,Y,Y,hm⟩,Y⟩:=hn
  exact(hm i C d oe).2 (eM z)) hk hn
 have R5: ∀p∈env.cells,p.2≠d:=fun p hp z=>(S.pw.2 p hp).elim (fun w=>Tk.2 (z▸w)) fun⟨_,w⟩=>fU Tt (z▸w)
 have WP:env.locals≠d:=fun z=>Tk.2 (z▸S.pw.1)
 obtain rfl:=oe
 refine⟨fun b o e=>hk b o (fun q=>fU (q▸Tt) e) (S.fz b o e),S.base,S.wf,fun b w=>?_,p1,p2,p3,fun y w e=>?_,fun y w e i' C' d' q=>?_,fun i' C' d' q=>?_,S.pw,⟨St.qp sl S.ma.1,fun i' C' d' q=>?_⟩,S.mw,?_,fun p hp=>?_⟩
 .obtain⟨o,e⟩:=S.wx b w
  exact⟨o,hk b o (fun q=>Tk.2 (q▸w)) e⟩
 .obtain⟨g1,g2⟩:=S.As y w ((RV.fN (k:= .v y) (x:= .a a) nofun).symm.trans e)
  refine⟨fun q=>?_,fun q=>?_⟩
  .obtain⟨m,⟨o,es,ep,h1,r⟩,h2⟩:=g1 q
   exact⟨m,⟨o,es,ep,hk _ _ WP h1,r⟩,h2⟩
  .obtain⟨c,h1,o,h2,h3⟩:=g2 q
   exact⟨c,h1,o,hk _ _ (R5 _ (mem_lookup h1)) h2,h3⟩
 .obtain⟨rfl,rfl,rfl⟩:=SU q
  by_cases z:y=a
  .have e:some v=some w:=(RV.fO ..).symm.trans (z▸e)
   exact b8 e▸z▸⟨_,_,lF,tT _⟩
  .obtain⟨I6,m,h1,h2⟩:=S.Gu y w ((RV.fN fun q=>z (fG.a.inj q)).symm.trans e) _ _ _ rfl
   rw[hd]at h1
   cases h1
   exact⟨_,_,lF,(tf z _).trans h2⟩
 .obtain⟨rfl,rfl,rfl⟩:=SU q
  exact⟨hk _ _ R3 hi,Zh,Tt,_,_,lF⟩
 .obtain⟨rfl,rfl,rfl⟩:=SU q
  obtain⟨e1,e2⟩:=Cf (a:=a) (ql:=ql) (tk:=t) (v:=v) (f:=fun x=>rv (.a x)) (g:=fun x=>rv.set (.a a) v (.a x)) (fun x=>by unfold RV.set;by_cases z:x=a<;>simp[z]) (md S.ma.1) qD xk
  exact⟨_,_,lF,e1.trans (aB _ (s8 ..).symm),e2.trans (aB _ (s8 ..).symm)⟩
 .obtain⟨m,o,I6,ep,h1,r⟩:=S.Bt
  exact⟨m,o,I6,ep,hk _ _ WP h1,r⟩
 .obtain⟨v',o,h1,h2⟩:=S.tn p hp
  exact⟨v',o,hk _ _ (R5 p hp) h1,h2⟩
theorem cT.MP{a:Str}{sl:Slot}{h':Heap}{tk:Nat}{i C d:Addr}(r:cT cx env me Pr bj aZ M O lv F W st rv s)(oe:me=some (i,C,d))(hn:gO D F W st rv me s.heap sl v)(hf: ∀t a,sl= .own t→v= .ref a→aZ.heap.get? a=none∧Pr a=none)
 (keep: ∀b o,b≠d→s.heap.get? b=some o→h'.get? b=some o) (al:h'.get? d≠none):
 cT cx env me Pr bj aZ M O lv F W (st.put (.a a) sl) (rv.set (.a a) v) { s with heap:=h',toks:=tk } where
 sh:=by clear hn keep;obtain⟨h,tk,rfl⟩:=r.sh;exact⟨h',_,rfl⟩
 le:=r.le
 new:=r.new
 keep:=fun b o e nm=>keep b o (fun q=>by rw[q,(r.mf i C d oe).1]at e;exact nn e) (r.keep b o e nm)
 alive:=fun b e=>by
  by_cases q:b=d
  .exact q▸al
  .obtain⟨o,z⟩:=Option.ne_none_iff_exists'.mp (r.alive b e)
   exact fun w=>fU w (keep b o q z)
 own:=fun k t b h1 h3=>by
  rcases St.eG h1 with⟨rfl,e⟩|⟨q,e⟩
  .exact .inl (hf t b e.symm (b8 ((RV.fO ..).symm.trans h3))).1
  .exact r.own k t b e ((RV.fN q).symm.trans h3)
 kG:=fun k t h1=>by
  rcases St.eG h1 with⟨rfl,e⟩|⟨q,e⟩
  .subst e
   exact hn.elim
  .exact(RV.fN q).trans (r.kG k t e)
 mo:=r.mo
 ml:=r.ml
 wn:=r.wn
 cw:=r.cw
 pr:=fun b o e=>by
  obtain⟨h1,h2,h3,h4⟩:=r.pr b o e
  refine⟨keep b o (fun q=>by rw[q,(r.mf i C d oe).2]at e;exact nn e) h1,h2,h3,?_⟩
  rintro⟨k,s',e1,e2,e3⟩
  rcases St.eG e1 with⟨rfl,z⟩|⟨q,z⟩
  .subst z
   obtain⟨t,z,Y⟩:=hn.held e2
   exact fU (hf t b z (b8 ((RV.fO ..).symm.trans e3))).2 e
  .exact h4 ⟨k,s',z,e2,(RV.fN q).symm.trans e3⟩
 mf:=r.mf
theorem CE{es:List DictEntry}{ns:List Str}(h:es.map (fun e=>gk e.key)=ns.map some)(a:Str):(getL a es).isSome=true:=by
 by_cases q:a∈ns
 .have:some a∈es.map (fun e=>gk e.key):=by exact ae h (List.mem_map_of_mem q)
  obtain⟨e,he,hs⟩:=List.mem_map.mp this
  unfold getL
  induction hf:es.find? (·.key.isStr a)using ab with
  |some e'=>rfl
  |none=>
   have:=List.find?_eq_none.mp hf e he
   exact absurd (kz.mpr hs) this
 .exact ae (qb h q) rfl
theorem Hv(hR:d4 D n R)(ha:ey A n)(hc:cy D n cx env)(S:SR D F W env me st rv s.heap)(r:cT cx env me Pr bj aZ M O lv F W st rv s){y a:Str}{yp ap pos:Pos}{k:St→aH}
 (h:(R cx e st fun o t st=>Nc (st.get (.v y)) fun C=>bif(jP cx y&&decide ((d5 st).length<100))&&(cx.attr C a&&dK (st.get (.a a)))then k (st.put (.a a) (fK o t))else none)=some out):
 wpAny (model D.prog D.w) A (exec (.Assign [.Attribute (.Name y yp) a ap] e pos) env) (ee D cx env me Pr bj aZ M O lv W k out) E s:=by
 refine plainObj_wpAny_Assign_Attribute (wm ((hR h).2 ha hc S) ?_) (l7 fun x p q=>(nomatch q))
 rintro v bk ⟨bK,o,t,aR,aP,bX,bh,hr,hf⟩
 obtain⟨C,hy,aP⟩:=Bh aP
 obtain⟨hq,aP⟩:=aJ aP
 obtain⟨RZ,GS⟩:=au.mp hq
 obtain⟨hv,gh⟩:=au.mp RZ
 obtain⟨iG,Y⟩:=au.mp GS
 have gh:=aj gh
 clear hq RZ GS
 obtain⟨w,hw,i,d,oe,rfl⟩:=bh.sl _ _ hy
 refine jw hc bh hv hw ?_
 obtain⟨hi,Y,Y,Y⟩:=bh.me i C d oe
 obtain⟨es,kk,hd,qD,xk⟩:=bh.ma.2 i C d oe
 have Kg:es.length=(d5 aR).length:=ai (as:=es) _▸ai (as:=d5 aR) _▸aB List.length qD
 have r₁:=r.ev bX S bh
 have jI:=oQ hr
 have GG: ∀u b,fK o t= .own u→v= .ref b→aZ.heap.get? b=none∧Pr b=none:=fun u b e q=>by
  have:=hf (oP e) b q
  exact⟨r.e7 this,r.mv this⟩
 refine store_attr bh.IJ hi hd (hc.attr C a iG) (CE qD a) (by rw[‹es.length=_›];exact ca (Nat.lt_trans (aj ‹_›) (by decide))) ?_
 intro h' tk ql tt n' lF keep
 exact⟨bK,_,_,aP,bh.Gw oe hd lF keep qD xk jI,r₁.MP oe jI GG keep (by exact ae lF (fun z=>nomatch z))⟩
end
theorem CX:bootBuiltins (Str.ofString "enumerate")=some (.type "enumerate"):=by decide+kernel
section
variable{Pr bj:FH}{aZ:Shared}{M O:Addr→Prop}{lv:Option Value}
theorem Cd(hc:cy D n cx env)(S:SR D F W env me st rv s.heap){f:Str}(hf:f=Str.ofString "enumerate")(hl:cx.sc.names.lookup f=some .globalImplicit){p:Pos}(hq:Q (.type "enumerate") s):
 wpAny (model D.prog D.w) A (eval (.Name f p) env) Q E s:=by
 subst hf
 have hm:D.mg (Str.ofString "enumerate")=none:=mg_none_of D.X D.g (hc.bi _ (.head _))
 refine Name_function_global hc.kf (hc.ng _ hl) (loadGlobal_builtin (mg:=D.mg) (mb:=D.mb) ?_ hm ?_ ((D.builtins _ (by decide)).trans CX) hq) (hc.nd _ _ hl).1
 .exact ae hc.gl (D.g.keeps S.e9)
 .exact ae hc.bu (D.b.keeps S.e9)
inductive Zy(D:Wd)(cx:Cx)(env:Env)(me:Me)(Pr bj:FH)(aZ:Shared)(M O:Addr→Prop)(lv:Option Value)(W:Addr→Prop)(X:Cx→List Stmt→St→(St→aH)→aH)(b:List Stmt)(x y:Str)(k:St→aH)(out:MV×Option MV)(ts:List MV)(bK:FH)(it en l:Addr)(j:Nat)(s':Shared):Prop where
 |mk (i:Nat) (F':FH) (bB:St) (fx:RV) (old:Value) (hj:j=ts.length+1-i) (hi:i≤ts.length) (hk:rQ (X cx b) x y (ts.drop i) i bB k=some out) (S:SR D F' W env me bB fx s'.heap) (r:cT cx env me Pr bj aZ M O lv F' W bB fx s') (le:dG bK F')
  (aI:Apart F' W env me bB fx s'.heap it) (aE:Apart F' W env me bB fx s'.heap en) (he:IsEnum s'.heap en it ((i:Nat):Int) old) (I4:s'.heap.IsListIter it l i)
theorem Hu(hR:d4 D n R){X:Cx→List Stmt→St→(St→aH)→aH}(hX:xu D n X)(ha:ey A n)(hc:cy D n cx env)(S:SR D F W env me st rv s.heap)(r:cT cx env me Pr bj aZ M O lv F W st rv s){x y f:Str}{px py fp cp tp pos:Pos}{tk:Nat}{b:List Stmt}{k:St→aH}
 (h:(bif pE f "enumerate"&&(decide (cx.sc.names.lookup f=some .globalImplicit)&&(decide (cx.sc.names.lookup x=some .local)&&(decide (cx.sc.names.lookup y=some .local)&&decide (x≠y))))&&(cx.fn f).isNone then
    R cx e st fun Y it st=>dL it fun ts=>bif aQ ts.length then rQ (X cx b) x y ts 0 st k else none
   else none)=some out):
 wpAny (model D.prog D.w) A (exec (.For (.Tuple [.Name x px,.Name y py] tk tp) (.Call (.Name f fp) [e] [] cp) b [] pos) env) (ee D cx env me Pr bj aZ M O lv W k out) E s:=by
 obtain⟨hq,h⟩:=aJ h
 obtain⟨hq,Y⟩:=au.mp hq
 obtain⟨Ti,hq⟩:=au.mp hq
 obtain⟨NG,hq⟩:=au.mp hq
 obtain⟨IX,hq⟩:=au.mp hq
 obtain⟨SX,Z4⟩:=au.mp hq
 have NG:=aj NG
 have IX:=aj IX
 have SX:=aj SX
 clear hq
 have Ti:=jr Ti
 refine wpAny_For ?_
 have gE: ∀a p,e≠ .Starred a p:=(hR h).1
 have hs:er [e]=true:=by induction e using Expr.casesOn<;>first|rfl|exact absurd rfl (gE _ _)
 refine wpAny_Call_NameR (Cd hc S Ti NG (j9 (.inr ⟨_,rfl⟩) hs ?_))
 refine ae (ia gE) ?_
 refine spliced_cons (wm (hR.aw h ha hc S) ?_)
 rintro v bk ⟨bK,t,aR,aP,bX,bh,hv⟩
 refine spliced_nil ?_
 obtain⟨ts,rfl,aP⟩:=ju aP
 .obtain⟨hz,aP⟩:=aJ aP
  have r₁:=r.ev bX S bh
  obtain⟨vs,⟨l,m,rfl,WT,Y⟩,gD⟩:=dO.mp hv
  have NB:=bh.fz _ _ WT
  have Kd:vs.length=ts.length:=dm.length gD
  refine call_enumerate_1 NB fun dy AN zF Qx oM=>?_
  have fI:=cE bk.heap
  have fE:=jB bk.heap
  generalize Ze:bk.heap.objs.size=it at*
  generalize WU:it+1=en at*
  have lw:en≠it:=by exact ft WU (Nat.succ_ne_self _)
  refine wpAny_pyIter_enum (s:={ bk with heap:=dy }) AN ?_
  clear Ze Qx WU;obtain⟨oI,GV,Y⟩:=id zF
  have Xc:=bh.apart fI ⟨oI,GV⟩
  have Xd:=bh.apart (h':=dy) fE ⟨_,AN⟩
  have i0:aZ.heap.get? it=none:=r₁.e7 fI
  have e0:aZ.heap.get? en=none:=r₁.e7 fE
  have ip:Pr it=none:=r₁.mv fI
  have ep:Pr en=none:=r₁.mv fE
  have kx:=hc.nl x IX
  have ky:=hc.nl y SX
  refine codeAny_forLoop_any (Zy D cx env me Pr bj aZ M O lv W X b x y k out ts bK it en l) ?_ (ts.length+1)
   ⟨0,bK,aR,rv,.none,rfl,Nat.zero_le _,aP,bh.ext oM,r₁.grow oM,dG.refl _,Xc,Xd,AN,zF⟩
  clear zF fI AN fE GV Xc Xd;rintro j s' ⟨i,F',bB,fx,old,rfl,Dk,hk,S',r',GC,aI,aE,WO,Hd⟩
  have ND:s'.heap.IsList l vs.toArray:=dj (S'.fz _ _ (GC _ _ WT))
  by_cases gG:i<ts.length
  .rw[mS gG]at hk
   obtain⟨UQ,hk⟩:=aJ hk
   have Dz:i<vs.length:=by rw[‹vs.length=ts.length›];assumption
   have Kb:vs.toArray[i]? =some vs[i]:=by simp[Dz]
   have SY:D.VR F' ts[i] vs[i]:=by
    obtain⟨w,q1,q2⟩:=dm.get gD (aq gG)
    rw[aq Dz]at q1;obtain rfl:=Option.some.inj q1
    exact VR.mono GC q2
   refine wpAny_pyNext_enum_item WO Hd ND Kb lw fun fu Y2 L1 QC Xh fi=>?_
   refine wpAny_letOwnedTupleGo_enum Y2 fun lK JI xn=>?_
   replace xn:Heap.SameBut en fu lK:=xn
   have YH:s'.heap.get? s'.heap.objs.size=none:=cE _
   have UK:s'.heap.objs.size≠en:=fun q=>by obtain⟨o,e⟩:=aE.al;rw[←q,YH]at e;exact nn e
   have QB:lK.IsTuple s'.heap.objs.size #[.int i s'.toks,vs[i]]:=⟨_,(xn.2 _ UK).trans QC,rfl,_,rfl⟩
   refine wpAny_assign_Tuple ha.hh QB rfl rfl fun ly xj=>?_
   replace xj:Heap.ExtBut lK.objs.size lK ly:=xj
   have oL: ∀b o,b≠en→b≠it→s'.heap.get? b=some o→ly.get? b=some o:=fun b o q1 q2 e=>by
    have e4:lK.get? b=some o:=(xn.2 b q1).trans (fi b o q1 q2 e)
    exact xj b o (dq (cr e4)) e4
   have QK:IsEnum ly en it (((i:Nat):Int)+1) vs[i]:=xj en _ (dq (cr JI)) JI
   have Er:ly.IsListIter it l (i+1):=by
    obtain⟨o,e1,e2⟩:=L1
    have e4:lK.get? it=some o:=(xn.2 it lw.symm).trans e1
    exact⟨o,xj it o (dq (cr e4)) e4,e2⟩
   have Hl:SR D F' W env me bB fx ly:=S'.jE (G:=fun b=>b=en∨b=it) (fun b o g e=>oL b o (fun q=>g (.inl q)) (fun q=>g (.inr q)) e)
    (fun b g=>g.elim (fun q=>q▸aE.f) fun q=>q▸aI.f) (fun b g=>g.elim (fun q=>q▸aE.hd) fun q=>q▸aI.hd) (fun b g=>g.elim (fun q=>q▸aE.m) fun q=>q▸aI.m)
    (fun g=>g.elim (fun q=>aE.l q.symm) fun q=>aI.l q.symm) (fun p hp g=>g.elim (aE.c p hp) (aI.c p hp))
    (fun b w=>by
      obtain⟨o,e⟩:=S'.wx b w
      exact⟨o,oL b o (fun q=>aE.w (q▸w)) (fun q=>aI.w (q▸w)) e⟩)
   have TQ:cT cx env me Pr bj aZ M O lv F' W bB fx { s' with heap:=ly,toks:=s'.toks+1 }:=by
    refine⟨by obtain⟨h,t,e⟩:=r'.sh;exact⟨ly,s'.toks+1,by exact ae e rfl⟩,r'.le,r'.new,fun b o e nm=>oL b o (fun q=>by rw[q,e0]at e;exact nn e) (fun q=>by rw[q,i0]at e;exact nn e) (r'.keep b o e nm),fun b e=>?_,r'.own,r'.kG,r'.mo,r'.ml,r'.wn,r'.cw,fun b o e=>?_,r'.mf⟩
    .have:=r'.alive b e
     induction q:s'.heap.get? b using ab with
     |none=>exact absurd q this
     |some o=>refine(?_:ly.get? b≠none);exact ae (oL b o (fun z=>e (z▸e0)) (fun z=>e (z▸i0)) q) (fun z=>nomatch z)
    .obtain⟨a1,a2⟩:=r'.pr b o e
     exact⟨oL b o (fun q=>by rw[q,ep]at e;exact nn e) (fun q=>by rw[q,ip]at e;exact nn e) a1,a2⟩
   obtain⟨Js,Ep,Y⟩:=id Er
   have rp:=(TQ.add QK aE.f aE.w aE.hd aE.m).add Ep aI.f aI.w aI.hd aI.m
   have sf:=jA (Md:=model D.prog D.w) (env:=env) (.cons (p:=px) (.cons (p:=py) .nil):G2 [.Name x px,.Name y py] [x,y])
   have vd:=fun E':Value→Shared→Prop=>uH (D:=D) (A:=A) (E:=E') hc [⟨x,false,.int i,.int i s'.toks⟩,⟨y,false,ts[i],vs[i]⟩] _ (s:={ s' with heap:=ly,toks:=s'.toks+1 }) sf.1 Hl rp
    (aN.mpr ⟨.inl kx,aN.mpr ⟨.inl ky,fun Y q=>jZ q⟩⟩)
    (aN.mpr ⟨iL (D:=D) (F:=F'),aN.mpr ⟨SY,fun Y q=>jZ q⟩⟩)
    (aN.mpr ⟨fun e=>ew e,aN.mpr ⟨fun e=>ew e,fun Y q=>jZ q⟩⟩)
    (.cons (fun Y Y e=>ew e) (.cons (fun Y q=>jZ q) .nil))
   refine wm (vd _) ?_
   rintro Y ZG ⟨Xg,VI,Kr⟩
   refine wm (hX hk ha hc VI Kr.rebase) ?_
   intro fl ZF KC
   have nG: ∀b o,Pr b=some o→(fun b=>if b=it then some Js else(fun b=>if b=en then some { cls:= .type "enumerate",dict:=none,data:= .fields #[.none,.bool false,.ref it,rawInt (((i:Nat):Int)+1),.none,vs[i]],slots:= #[]}else Pr b) b) b=some o:=fun b o e=>by
    refine(az (fun q=>by rw[q,ip]at e;exact nn e)).trans ((az (fun q=>by rw[q,ep]at e;exact nn e)).trans ?_)
    exact e
   induction fl using Flow.casesOn with
   |next=>
    obtain⟨K9,DJ,DM,q1,q2,q3⟩:=KC
    obtain⟨z1,z2,z3,z4⟩:=q3.pr it Js (aF rfl)
    obtain⟨y1,y2,y3,y4⟩:=q3.pr en _ ((az lw).trans (aF rfl))
    refine⟨ts.length+1-(i+1),by exact Nn ‹_›,i+1,K9,DJ,DM,vs[i],rfl,gG,q1,q2,(Kr.wF q3).sub nG,GC.trans q3.le,⟨z2,z3,z4,aI.m,aI.l,aI.c,⟨_,z1⟩⟩,⟨y2,y3,y4,aE.m,aE.l,aE.c,⟨_,y1⟩⟩,?_,?_⟩
    .have:((i+1:Nat):Int)=(i:Int)+1:=by push_cast;rfl
     exact ae this y1
    .obtain⟨o,e1,e2⟩:=Er
     rw[Ep]at e1;obtain rfl:=Option.some.inj e1
     exact⟨_,z1,e2⟩
   |ret v=>
    obtain⟨K9,DJ,DM,t,q1,q2,q3,q4,q5⟩:=KC
    exact⟨K9,DJ,DM,t,q1,q2,(Kr.wF q3).sub nG,q4,q5⟩
   |_=>exact KC.elim
  .have e:i=ts.length:=by exact IM ‹_› ‹_›
   subst e
   rw[List.drop_length]at hk
   refine wpAny_pyNext_enum_end ha.hh WO Hd ND (by simp[Kd]) fun fu Qy=>?_
   have fi: ∀b o,b≠it→s'.heap.get? b=some o→fu.get? b=some o:=fun b o q e=>Qy b o q e
   refine wpAny_execs_nil ?_
   exact⟨F',bB,fx,hk,Apart.jE (I:=it) S' aI fi,r'.jE (tk:=s'.toks) i0 ip fi⟩
end
theorem Mz{b:Bool}{x:aH}(h:(bif b then none else x)=some out):x=some out:=by
 induction b using ag with
 |true=>exact nn h
 |false=>exact h
theorem x9(hn:20≤n): ∀m:Nat,VJ D n (ex m)∧xu D n (bF m):=by
 intro m
 induction m with
 |zero=>exact⟨fun h=>(by exact nn h),fun h=>(by exact nn h)⟩
 |succ m ih=>
  obtain⟨Yh,Nz⟩:=ih
  have hR:d4 D n (ev m):=iC hn m
  constructor
  .intro cx b st k out h A env F W me rv s E Pr bj aZ M O lv ha hc S r
   induction b using Stmt.casesOn with
   |Pass p=>exact wpAny_Pass ⟨F,st,rv,h,S,r⟩
   |Expr e p=>
    obtain⟨q,g⟩:=aJ h
    obtain⟨f,as,ks,p',rfl,Y⟩:=(xM (β:=Prop) (e:=e) (k:=fun Y Y Y=>True) (d:=False) rfl).resolve_right fun z=>z.1 (aj q)
    exact Ht hR ha hc S r g
   |Return e p=>induction e using ab with
    |some e=>exact uI hR ha hc S r h
    |none=>exact tO S r h
   |If t b o p=>exact Pe hR Nz ha hc S r h
   |While t b o p=>
    obtain⟨rfl,g⟩:=cm h
    exact E2 hR Nz ha hc S r g
   |For tg iter b o p=>
    obtain⟨rfl,g⟩:=cm h
    clear h
    rcases iA g with⟨x,px,rfl,h⟩|⟨Y,h⟩
    .exact Lg hR Nz ha hc S r h
    .clear g
     obtain⟨es,tk,tp,rfl,g⟩:=sU h;clear h
     obtain⟨e1,es,rfl,h⟩:=bL g;clear g
     obtain⟨x,px,rfl,g⟩:=eZ h;clear h
     obtain⟨e2,es,rfl,h⟩:=bL g;clear g
     obtain⟨y,py,rfl,g⟩:=eZ h;clear h
     obtain⟨rfl,h⟩:=cm g;clear g
     obtain⟨ge,as,ks,cp,rfl,g⟩:=CP h;clear h
     obtain⟨f,fp,rfl,h⟩:=eZ g;clear g
     obtain⟨e,as,rfl,g⟩:=bL h;clear h
     obtain⟨rfl,h⟩:=cm g;clear g
     obtain⟨rfl,g⟩:=cm h;clear h
     exact Hu hR Nz ha hc S r g
   |Assign Nq e p=>
    obtain⟨tg,Nq,rfl,g⟩:=bL h;clear h
    obtain⟨rfl,h⟩:=cm g;clear g
    rcases iA h with⟨x,px,rfl,g⟩|⟨Y,g⟩
    .exact Hs hn ha hc S r g
    clear h
    rcases uM g with⟨ts,a,b,rfl,h⟩|⟨Y,h⟩
    .clear g
     generalize q:AA e=l at h
     induction l using ab with
     |some es=>
      obtain⟨c,d,rfl⟩:=zO q
      exact B3 hR ha hc S r h
     |none=>exact B4 hR ha hc S r (fun es c d z=>Sn ((aB AA z).symm.trans q)) h
    clear g
    rcases tR h with⟨c,i,q,rfl,g⟩|⟨Y,g⟩
    .exact Lf hR ha hc S r (Mz g)
    clear h
    obtain⟨o,a,p,rfl,h⟩:=gV g
    clear g
    obtain⟨y,yp,rfl,g⟩:=eZ h
    exact Hv hR ha hc S r g
   |_=>exact nn h
  .intro cx b st k out h A env F W me rv s E Pr bj aZ M O lv ha hc S r
   induction b using aO with
   |nil=>exact wpAny_execs_nil ⟨F,st,rv,h,S,r⟩
   |cons b bs=>
    refine wpAny_execs_cons (wm (Yh h ha hc S r) ?_)
    intro f bk aP
    induction f using Flow.casesOn with
    |next=>
     obtain⟨bK,aR,kI,q1,q2,q3⟩:=aP
     exact Nz q1 ha hc q2 q3
    |ret v=>exact aP
    |_=>exact aP.elim
noncomputable def rY(h:Heap)(v:Value)(ds:List Value):Prop:=(v= .none∧ds=[])∨ ∃T o n,v= .ref T∧h.get? T=some o∧o.data= .seq ds.toArray n
theorem sC: ∀{ps:List Str}{vs:List Value}{x:Str},x∉ps→(ps.zip vs).lookup x=none
 | [],_,_,_=>rfl
 |p::ps,[],x,_=>rfl
 |p::ps,v::vs,x,h=>by
  simp only[aA,not_or]at h
  refine ae List.zip_cons_cons (de.trans ?_)
  have:(x==p)=false:=by simpa using h.1
  exact ae this (sC h.2)
theorem FZ{α β:Type}{f g:α→Option β}: ∀{l:List α},(∀x∈l,f x=g x)→l.filterMap f=l.filterMap g:=by
 intro l_
 induction l_ with
 |nil=>intro _;exact rfl
 |cons a l ih=>intro h;exact List.filterMap_cons.trans (ae List.filterMap_cons (ae (h a (.head _)) (ae (ih fun x hx=>h x (.tail _ hx)) rfl)))
theorem pX: ∀{ps:List Str}{vs:List Value},ps.Nodup→ps.length=vs.length→(ps.filterMap fun n=>((ps.zip vs).lookup n).map (n, ·))=ps.zip vs
 | [],_,_,_=>rfl
 |p::ps,[],_,h=>by simp at h
 |p::ps,v::vs,hn,h=>by
  rw[bC]at hn
  refine ae List.zip_cons_cons (List.filterMap_cons.trans (ae de ?_))
  simp only[beq_self_eq_true,Option.map_some]
  congr 1
  refine Eq.trans (FZ fun x hx=>?_) (pX hn.2 (by simpa using h))
  refine ae de ?_
  have:(x==p)=false:=by
   have:x≠p:=fun e=>hn.1 (e▸hx)
   simpa using this
  exact ae this rfl
theorem pW: ∀{ps:List Str}{vs:List Value}{x:Str},x∈ps.take vs.length→((ps.zip vs).lookup x).isNone=false
 | [],_,_,h=>by simp at h
 |p::ps,[],x,h=>by exact jZ h
 |p::ps,v::vs,x,h=>by
  refine ae List.zip_cons_cons (ae de ?_)
  by_cases q:(x==p)=true
  .exact ae q rfl
  .rw[Bool.not_eq_true]at q
   refine ae q ?_
   simp only[bw,List.take_succ_cons,aA]at h
   rcases h with h|h
   .subst h;simp at q
   .exact pW h
theorem Gg{M:Model}{ps:List Str}{vs ds:List Value}{Q:List (Str×Value)→Shared→Prop}(hn:ps.Nodup)(hl:vs.length≤ps.length)(hz:ps.length≤vs.length+ds.length)(pK:ds.length≤1)(hq:Q (ps.zip (vs++ds)) s):
 wpAny M A (forIn ((List.drop (ps.length-(if ps.length=0 then[]else ds).length) ps).zip (if ps.length=0 then[]else ds)) (ps.zip vs) fun(x:Str×Value)(z:List (Str×Value))=>
         (if(List.lookup x.fst z).isNone=true then pure (ForInStep.yield (z++[(x.fst,x.snd)]))
         else pure (ForInStep.yield z):Sem (ForInStep (List (Str×Value))))) Q E s:=by
 induction ds using aO with
 |nil=>
  refine ae (ite_self []) (ae List.zip_nil_right ?_)
  exact av (bG vs▸hq)
 |cons d ds=>
  obtain rfl:ds=[]:=bM.mp (Nat.le_zero.mp (bf pK))
  clear pK
  by_cases q0:ps.length=0
  .refine ae (aF q0) (ae List.zip_nil_right ?_)
   have:ps=[]:=bM.mp q0
   clear hn hl hz q0;subst this
   exact av hq
  .refine ae (az q0) ?_
   obtain⟨tC,p,rfl⟩: ∃tC p,ps=tC++[p]:=⟨ps.dropLast,ps.getLast (by intro e;rw[e]at q0;exact q0 rfl),(List.dropLast_concat_getLast _).symm⟩
   have e1:(tC++[p]).drop ((tC++[p]).length-[d].length)=[p]:=by simp
   refine ae e1 ?_
   simp only[b0,bw,List.length_nil]at hl hz
   by_cases q:vs.length=tC.length+1
   .have f:=pW (ps:=tC++[p]) (vs:=vs) (x:=p) (by refine ae (List.take_of_length_le (by simp[q])) ?_;simp)
    have e2:(tC++[p]).zip (vs++[d])=(tC++[p]).zip vs:=by
     have:=List.zip_append (l₁:=tC++[p]) (r₁:=[]) (l₂:=vs) (r₂:=[d]) (by simp[q])
     simpa using this
    rw[e2]at hq
    refine(?_:wpAny M A (forIn [(p,d)] _ _) Q E s)
    refine ae (List.forIn_cons ..) ?_
    refine ae f ?_
    exact pb ((av hq))
   .have q':vs.length=tC.length:=by lia
    have np:p∉tC:=by
     rw[List.nodup_append]at hn
     exact fun h=>hn.2.2 p h p (by exact .head _) rfl
    have e2:(tC++[p]).zip (vs++[d])=tC.zip vs++[(p,d)]:=by
     exact(List.zip_append q'.symm).trans rfl
    have e3:(tC++[p]).zip vs=tC.zip vs:=by
     have:=List.zip_append (l₁:=tC) (r₁:=[p]) (l₂:=vs) (r₂:=[]) q'.symm
     simpa using this
    rw[e2]at hq
    refine ae (List.forIn_cons ..) (ae e3 ?_)
    have f:(tC.zip vs).lookup p=none:=sC np
    rw[f]
    exact pb ((av hq))
section
variable{M:Model}
theorem BV{ds:List Value}{Q:Option (Array Value)→Shared→Prop}(h:rY s.heap v ds)(hq: ∀o,(o.getD #[]).toList=ds→Q o s):wpAny M A (seqItems? v) Q E s:=by
 rcases h with⟨rfl,rfl⟩|⟨T,o,n,rfl,ho,hd⟩
 .exact av (hq none rfl)
 .exact wpAny_seqItems ho hd (hq _ (by rfl))
theorem sZ{fd:FuncData}{as:List PySem.Arg}{ps:List Str}{vs ds:List Value}{Q:List (Str×Value)→Shared→Prop}(h1:fd.params.posonlyargs=[])(h2:fd.params.args=as)(h3:fd.params.vararg=none)(h4:fd.params.kwonlyargs=[])(h5:fd.params.kwarg=none)
 (pD:as.map (·.arg)=ps) (hn:ps.Nodup) (hd:rY s.heap fd.defaults ds) (hl:vs.length≤ps.length) (hz:ps.length≤vs.length+ds.length) (pK:ds.length≤1) (hq:Q (ps.zip (vs++ds)) s):wpAny M A (bindArgs fd ⟨vs,[]⟩) Q E s:=by
 obtain⟨nm,qn,pr,bd,sc,gl,cl,df,Z2,dc,pm,an,cd,ct,bu⟩:=fd
 obtain⟨po,ar,va,ko,kd,ka,Sz⟩:=pr
 have h1:po=[]:=h1
 have h2:ar=as:=h2
 have h3:va=none:=h3
 have h4:ko=[]:=h4
 have h5:ka=none:=h5
 clear h1 h2 h3 h4 h5;subst h1 h2 h3 h4 h5
 unfold bindArgs
 refine pb (?_)
 refine ak (BV hd fun o ho=>?_)
 dsimp only
 refine ae pD (ae ho (ae (show List.map (fun x:PySem.Arg=>x.arg) []++ps=ps from rfl) ?_))
 have e1:decide (vs.length>ps.length)=false:=by simp;assumption
 refine ae e1 (ae (Bool.false_and ..) (ae (az cA) ?_))
 have e2:ds.drop (ds.length-ps.length)=if ps.length=0 then[]else ds:=by
  split
  .rename_i q;exact ae q (ae (Nat.sub_zero ..) (List.drop_length))
  .rw[show ds.length-ps.length=0 from Nat.sub_eq_zero_of_le (af pK (Nat.pos_of_ne_zero ‹_›)),List.drop_zero]
 refine ae e2 ?_
 have e3:List.filter (fun n=>(List.lookup n (ps.zip vs)).isNone) (List.take (ps.length-(if ps.length=0 then[]else ds).length) ps)=[]:=by
  refine List.filter_eq_nil_iff.mpr fun x hx=>?_
  have:x∈ps.take vs.length:=by
   refine(List.take_subset_take_left ps ?_) hx
   split
   .exact af (Nat.sub_le ..) (af (c6 ‹_›) (Nat.zero_le _))
   .exact Nat.sub_le_iff_le_add.mpr ‹_›
  exact ae (pW this) cA
 refine ae e3 ?_
 refine ae (show(!([]:List Str).isEmpty)=false from rfl) (ae (az cA) ?_)
 refine ak (Gg hn hl hz pK ?_)
 refine pb (?_)
 refine av ?_
 refine ae (show ps++List.map (fun x:PySem.Arg=>x.arg) []=ps from bG ps) ?_
 by_cases q:vs.length=ps.length
 .have e4:ps.zip (vs++ds)=ps.zip vs:=by
   have:=List.zip_append (l₁:=ps) (r₁:=[]) (l₂:=vs) (r₂:=ds) q.symm
   simpa using this
  rw[e4]at hq ⊢
  exact ae (pX hn q.symm) hq
 .exact ae (pX hn (by rw[b0];lia)) hq
end
noncomputable def fg:c8→MV→Slot
 | .aw,t=> .aw t
 | .own,t=> .own t
 | .lend,t=> .cK t
noncomputable def slotIn:c8→MV→Slot
 | .aw,t=> .aw t
 | .own,t=> .own t
 | .lend,t=> .own t
noncomputable def d6(f:c8→MV→Slot):List Str→List c8→List MV→St→St
 | [],_,_,st=>st
 |p::ps,ms,ts,st=>(match ts with| []=>st|t::ts=>d6 f ps ms.tail ts (st.put (.v p) (f (b9 ms) t)))
noncomputable def jp:List Str→List Value→RV→RV
 | [],_,rv=>rv
 |p::ps,vs,rv=>(match vs with| []=>rv|v::vs=>jp ps vs (rv.set (.v p) v))
theorem v7(h:b9 ms= .aw):bQ ms (v::vs)=bQ ms.tail vs∧cq ms (v::vs)=cq ms.tail vs∧cU ms (v::vs)=cU ms.tail vs:=
 ⟨aB (oy · _ _) h,aB (tK · _ _) h,aB (GB · _ _) h⟩
theorem rt(h:b9 ms= .own):bQ ms (.ref a::vs)=a::bQ ms.tail vs∧cq ms (.ref a::vs)=a::cq ms.tail vs∧cU ms (.ref a::vs)=cU ms.tail vs:=
 ⟨aB (oy · _ _) h,aB (tK · _ _) h,aB (GB · _ _) h⟩
theorem sq(h:b9 ms= .lend):bQ ms (.ref a::vs)=a::bQ ms.tail vs∧cq ms (.ref a::vs)=cq ms.tail vs∧cU ms (.ref a::vs)=some (.ref a):=
 ⟨aB (oy · _ _) h,aB (tK · _ _) h,aB (GB · _ _) h⟩
section
theorem rF.keep{h h':Heap}{m:c8}{l:List Addr}(x:rF D F h m t v)(hk: ∀a∈oy m v l,∀o,h.get? a=some o→h'.get? a=some o):rF D F h' m t v∧ ∀a∈l,a∈oy m v l:=by
 have go (x:D.f0 F h.get? t v∧j3 h v∧fS t=true∧ ∃a,v= .ref a∧F a=none) (hk: ∀a∈Mine.adr v l,∀o,h.get? a=some o→h'.get? a=some o):(D.f0 F h'.get? t v∧j3 h' v∧fS t=true∧ ∃a,v= .ref a∧F a=none)∧ ∀a∈l,a∈Mine.adr v l:=by
  obtain⟨q1,q2,q3,a,rfl,q5⟩:=x
  have k: ∀b o,.ref a=Value.ref b→h.get? b=some o→h'.get? b=some o:=fun b o z w=>hk b (eM z▸ .head _) o w
  exact⟨⟨q1.box q3 (dG.refl _) k,fun b z=>(q2 b z).elim fun o w=>⟨o,k b o z w.1,w.2⟩,q3,a,rfl,q5⟩,fun Y q=> .tail _ q⟩
 induction m using c8.casesOn with
 |aw=>exact⟨x,fun Y q=>q⟩
 |own=>exact go x hk
 |lend=>exact go x hk
theorem ef.keep{h h':Heap}(x:ef D F h ms ts vs):(∀a∈bQ ms vs,∀o,h.get? a=some o→h'.get? a=some o)→ef D F h' ms ts vs:=by
 induction x with
 |nil=>exact fun Y=> .nil
 |cons a _ ih=>
  intro hk
  obtain⟨p,q⟩:=a.keep hk
  exact .cons p (ih fun b hb=>hk b (q b hb))
theorem CC{x:fG}{sl:Slot}(h:dh (st.put x sl) (rv.set x v) b):dh st rv b∨(sl.dX=true∧v= .ref b):=by
 obtain⟨k,s',e1,e2,e3⟩:=h
 rcases St.eG e1 with⟨rfl,rfl⟩|⟨q,z⟩
 .exact .inr ⟨e2,b8 ((RV.fO ..).symm.trans e3)⟩
 .exact .inl ⟨k,s',z,e2,(RV.fN q).symm.trans e3⟩
theorem ic(hp:Pl env): ∀{ps:List Str}{ms:List c8}{ts:List MV}{vs:List Value}{st:St}{rv:RV}{s:Shared},(∀p∈ps,env.kindOf p=some .local∨(env.kindOf p=some .cell∧ ∃c,env.cells.lookup p=some c∧W c))→
 SR D F W env me st rv s.heap→ef D F s.heap ms ts vs→(bQ ms vs).Nodup→(∀a∈bQ ms vs,¬W a∧ ¬dh st rv a∧ ∀i C d,me=some (i,C,d)→a≠i∧a≠d)→ ∀{Q:PUnit→Shared→Prop},
 (∀h' tk,SR D F W env me (d6 slotIn ps ms ts st) (jp ps vs rv) h'→(∀b o,¬W b→s.heap.get? b=some o→h'.get? b=some o)→(∀b,s.heap.get? b≠none→h'.get? b≠none)→Q ⟨⟩ { s with heap:=h',toks:=tk })→
 wpAny (model D.prog D.w) A (forIn (ps.zip vs) ⟨⟩ fun(p:Str×Value)(_:PUnit)=>storeName env p.1 p.2 >>= fun Y=>pure (ForInStep.yield PUnit.unit)) Q E s:=by
 intro ps
 induction ps with
 |nil=>intro ms ts vs st rv s hk S ha hn hf Q hq;exact av (hq s.heap s.toks S (fun Y Y Y e=>e) fun Y e=>e)
 |cons p ps ic=>
  intro ms ts vs st rv s hk S ha hn hf Q hq
  induction ts using aO with
  |nil=>
   obtain rfl:vs=[]:=ha.inv
   clear ha hn hf
   exact av (hq s.heap s.toks S (fun Y Y Y e=>e) fun Y e=>e)
  |cons t ts=>
   obtain⟨v,vs,rfl,h1,h2⟩:=ha.inv
   clear ha
   have go: ∀(jI:gO D F W st rv me s.heap (slotIn (b9 ms) t) v)(zj: ∀a∈bQ ms.tail vs,a∈bQ ms (v::vs))(tz:(bQ ms.tail vs).Nodup)(lw:(slotIn (b9 ms) t).dX=true→ ∀a∈bQ ms.tail vs,v≠ .ref a),
    wpAny (model D.prog D.w) A (forIn ((p::ps).zip (v::vs)) ⟨⟩ fun(p:Str×Value)(_:PUnit)=>storeName env p.1 p.2 >>= fun Y=>pure (ForInStep.yield PUnit.unit)) Q E s:=by
    intro jI zj tz lw
    refine ae List.zip_cons_cons (ae (List.forIn_cons ..) ?_)
    refine ak (ak (gv hp S (hk p (.head _)) jI fun h' tk S' k1 Y al=>av ?_))
    refine ic (fun q hq=>hk q (.tail _ hq)) S' (h2.keep fun a ha o e=>k1 a o (hf a (zj a ha)).1 e) tz (fun a ha=>⟨(hf a (zj a ha)).1,fun z=>?_,(hf a (zj a ha)).2.2⟩) fun Kj n9 BF k2 TJ=>?_
    .rcases CC z with z|⟨z1,z2⟩
     .exact(hf a (zj a ha)).2.1 z
     .exact lw z1 a ha z2
    .exact hq Kj n9 BF (fun b o nw e=>k2 b o nw (k1 b o nw e)) fun b e=>TJ b (al b e)
   clear hq;induction hm:b9 ms using c8.casesOn with
   |aw=>
    rw[hm]at h1 go
    rw[(v7 hm).1]at hn go
    exact go h1 (fun Y q=>q) hn fun z=>nomatch z
   |own=>
    rw[hm]at h1 go
    obtain⟨q1,q2,q3,a,rfl,q5⟩:=h1
    rw[(rt hm).1]at hn go hf
    rw[bC]at hn
    obtain⟨w1,w2,w3⟩:=hf a (.head _)
    exact go ⟨⟨a,rfl,q5,w1,w2,w3⟩,q1,q2,q3⟩ (fun Y q=> .tail _ q) hn.2 fun Y b hb e=>by obtain rfl:=eM e;exact hn.1 hb
   |lend=>
    rw[hm]at h1 go
    obtain⟨q1,q2,q3,a,rfl,q5⟩:=h1
    rw[(sq hm).1]at hn go hf
    rw[bC]at hn
    obtain⟨w1,w2,w3⟩:=hf a (.head _)
    exact go ⟨⟨a,rfl,q5,w1,w2,w3⟩,q1,q2,q3⟩ (fun Y q=> .tail _ q) hn.2 fun Y b hb e=>by obtain rfl:=eM e;exact hn.1 hb
noncomputable def lr(st bB:St):Prop:=bB.map (·.1)=st.map (·.1)∧ ∀k s',bB.get k=some s'→ ∃s,st.get k=some s∧(s'=s∨ ∃t,s= .own t∧s'= .cK t)
theorem lr.refl(st:St):lr st st:=⟨rfl,fun k s' e=>⟨s',e,.inl rfl⟩⟩
theorem lr.put{st bB:St}(r:lr st bB){x:fG}{sl wQ:Slot}(h:wQ=sl∨ ∃t,sl= .own t∧wQ= .cK t):lr (st.put x sl) (bB.put x wQ):=by
 refine⟨?_,fun k s' e=>?_⟩
 .induction q:st.get x using ab with
  |some aZ=>
   have: ∃bk,bB.get x=some bk:=by
    induction q':bB.get x using ab with
    |some bk=>exact⟨bk,rfl⟩
    |none=>
     have h1:=St.get_none q'
     rw[r.1]at h1
     exact absurd (List.mem_map_of_mem (f:=(·.1)) (d9 q)) h1
   obtain⟨bk,q'⟩:=this
   exact ae (St.f8 sl q) ((St.f8 wQ q').trans (ae r.1 rfl))
  |none=>
   have:bB.get x=none:=by
    induction q':bB.get x using ab with
    |none=>rfl
    |some bk=>
     obtain⟨s,e,Y⟩:=r.2 x bk q'
     exact fU q e
   exact ae (St.mx sl q) ((St.mx wQ this).trans (ae r.1 rfl))
 .rw[St.eP]at e ⊢
  split at e
  .rename_i q;obtain rfl:=b8 e
   exact ae (aF q) (⟨sl,rfl,h⟩)
  .rename_i q
   exact ae (az q) (r.2 k s' e)
theorem kU: ∀{ps:List Str}{ms:List c8}{ts:List MV}{st bB:St},lr st bB→lr (d6 slotIn ps ms ts st) (d6 fg ps ms ts bB):=by
 intro ps
 induction ps with
 |nil=>intro ms ts st bB r;exact r
 |cons p ps ih=>
  intro ms ts st bB r
  induction ts using aO with
  |nil=>exact r
  |cons t ts=>
   have h:fg (b9 ms) t=slotIn (b9 ms) t∨ ∃u,slotIn (b9 ms) t= .own u∧fg (b9 ms) t= .cK u:=by
    induction b9 ms using c8.casesOn with
    |lend=>exact .inr ⟨t,rfl,rfl⟩
    |_=>exact .inl rfl
   exact ih (ms:=ms.tail) (ts:=ts) (r.put (x:= .v p) h)
theorem SR.Bu{st bB:St}(S:SR D F W env me st rv h)(r:lr st bB):SR D F W env me bB rv h:=by
 have fl: ∀{s s':Slot},(s'=s∨ ∃t,s= .own t∧s'= .cK t)→s.dX=s'.dX∧s.gC=s'.gC:=by
  rintro s s' (rfl|⟨t,rfl,rfl⟩)
  .exact⟨rfl,rfl⟩
  .exact⟨rfl,rfl⟩
 refine⟨S.fz,S.base,S.wf,S.wx,?_,?_,?_,S.As,S.Gu,S.me,S.pw,S.ma.keys r.1,S.mw,S.Bt,S.tn⟩
 .intro k s' e
  obtain⟨s,e1,e2⟩:=r.2 k s' e
  obtain⟨v,h1,h2⟩:=S.sl k s e1
  refine⟨v,h1,?_⟩
  clear e e1;rcases e2 with rfl|⟨t,rfl,rfl⟩
  .exact h2
  .exact h2
 .intro k s' e hh
  obtain⟨s,e1,e2⟩:=r.2 k s' e
  exact S.held k s e1 ((fl e2).1.trans hh)
 .intro k k' s1 s2 a e1 e2 m1 m2 r1 r2
  obtain⟨t1,f1,g1⟩:=r.2 k s1 e1
  obtain⟨t2,f2,g2⟩:=r.2 k' s2 e2
  exact S.dist k k' t1 t2 a f1 f2 ((fl g1).2.trans m1) ((fl g2).1.trans m2) r1 r2
theorem yu: ∀{ps:List Str}{ms:List c8}{ts:List MV}{vs:List Value}{st:St}{rv:RV}{h:Heap},ef D F h ms ts vs→ ∀k t b,(d6 fg ps ms ts st).get k=some (.own t)→jp ps vs rv k=some (.ref b)→
 (st.get k=some (.own t)∧rv k=some (.ref b))∨b∈cq ms vs:=by
 intro ps
 induction ps with
 |nil=>intro ms ts vs st rv h x k t b h1 h2;exact .inl ⟨h1,h2⟩
 |cons p ps ih=>
  intro ms ts vs st rv h x k t b h1 h2
  induction ts using aO with
  |nil=>
   obtain rfl:vs=[]:=x.inv
   exact .inl ⟨h1,h2⟩
  |cons BG ts=>
   obtain⟨v,vs,rfl,x1,x2⟩:=x.inv
   clear x
   have sub:b∈cq ms.tail vs→b∈cq ms (v::vs):=by
    clear h2;induction hm:b9 ms using c8.casesOn with
    |aw=>exact ae ((v7 hm).2.1) id
    |own=>rw[hm]at x1;obtain⟨Y,Y,Y,a,rfl,Y⟩:=x1;exact ae ((rt hm).2.1) (fun q=> .tail _ q)
    |lend=>rw[hm]at x1;obtain⟨Y,Y,Y,a,rfl,Y⟩:=x1;exact ae ((sq hm).2.1) id
   rcases ih (rv:=rv.set (.v p) v) x2 k t b h1 h2 with⟨q1,q2⟩|q
   .rcases St.eG q1 with⟨rfl,e1⟩|⟨q,z⟩
    .obtain rfl:=b8 ((RV.fO ..).symm.trans q2)
     clear h2 h1 x1 sub x2
     induction hm:b9 ms using c8.casesOn with
     |aw=>rw[hm]at e1;exact nomatch e1
     |own=>exact .inr ((rt hm).2.1.symm▸ .head _)
     |lend=>rw[hm]at e1;exact nomatch e1
    .exact .inl ⟨z,(RV.fN q).symm.trans q2⟩
   .exact .inr (sub q)
noncomputable def j5:c8→Bool
 | .lend=>true
 |_=>false
theorem pd: ∀{ms:List c8}{vs:List Value},ms.any j5=false→cU ms vs=none:=by
 intro ms
 induction ms with
 |nil=>intro vs Y;exact oS vs
 |cons m ms ih=>
  intro vs h
  induction vs using aO with
  |nil=>rfl
  |cons v vs=>
   induction m using c8.casesOn with
   |lend=>exact Gy h
   |aw=>exact ih h
   |own=>exact ih h
theorem wv: ∀{ms:List c8}{vs:List Value},ms.any j5=true→ms.length≤vs.length→ ∃v,cU ms vs=some v:=by
 intro ms
 induction ms with
 |nil=>intro vs h Y;exact ew h
 |cons m ms ih=>
  intro vs h hl
  induction vs using aO with
  |nil=>exact nomatch hl
  |cons v vs=>
   have ND:=bf hl
   induction m using c8.casesOn with
   |lend=>exact⟨v,rfl⟩
   |aw=>exact ih h ND
   |own=>exact ih h ND
noncomputable def mD:List c8→Bool
 | []=>true
 |m::ms=>bif j5 m then !ms.any j5 else mD ms
theorem wt: ∀{ms:List c8},ms.any j5=false→mD ms=true:=by
 intro l_
 induction l_ with
 |nil=>intro Y;exact rfl
 |cons m ms ih=>
  intro h
  induction m using c8.casesOn with
  |lend=>exact Gy h
  |aw=>exact ih h
  |own=>exact ih h
theorem u8: ∀{ps:List Str}{ms:List c8}{ts:List MV}{vs:List Value}{st:St}{rv:RV}{h:Heap},ef D F h ms ts vs→mD ms=true→ ∀k t,(d6 fg ps ms ts st).get k=some (.cK t)→
 (st.get k=some (.cK t)∧jp ps vs rv k=rv k)∨ ∃v,cU ms vs=some v∧jp ps vs rv k=some v:=by
 intro ps
 induction ps with
 |nil=>intro ms ts vs st rv h x ol k t h1;exact .inl ⟨h1,rfl⟩
 |cons p ps ih=>
  intro ms ts vs st rv h x ol k t h1
  induction ts using aO with
  |nil=>
   obtain rfl:vs=[]:=x.inv
   exact .inl ⟨h1,rfl⟩
  |cons BG ts=>
   obtain⟨v,vs,rfl,x1,x2⟩:=x.inv
   clear x
   have Wm:mD ms.tail=true:=by
    clear h1 x1 x2;induction ms using aO with
    |nil=>rfl
    |cons m ms=>
     induction m using c8.casesOn with
     |lend=>exact wt ((Bool.not_eq_true' _).mp ol)
     |_=>exact ol
   rcases ih (rv:=rv.set (.v p) v) x2 Wm k t h1 with⟨q1,q2⟩|⟨v',q1,q2⟩
   .rcases St.eG q1 with⟨rfl,e1⟩|⟨q,z⟩
    .induction hm:b9 ms using c8.casesOn with
     |aw=>rw[hm]at e1;exact nomatch e1
     |own=>rw[hm]at e1;exact nomatch e1
     |lend=>
      rw[hm]at x1
      obtain⟨Y,Y,Y,a,rfl,Y⟩:=x1
      exact .inr ⟨_,(sq hm).2.2,q2.trans (RV.fO ..)⟩
    .exact .inl ⟨z,q2.trans (RV.fN q)⟩
   .refine .inr ⟨v',?_,q2⟩
    clear h1 x2 Wm q2;induction hm:b9 ms using c8.casesOn with
    |aw=>exact((v7 hm).2.2).trans q1
    |own=>rw[hm]at x1;obtain⟨Y,Y,Y,a,rfl,Y⟩:=x1;exact((rt hm).2.2).trans q1
    |lend=>
     induction ms using aO with
     |nil=>cases hm
     |cons m ms=>
      clear x1
      obtain rfl:m= .lend:=hm
      exact fU (pd ((Bool.not_eq_true' _).mp ol)) q1
end
noncomputable def gw(sc:Scope):Bool:=decide (sc.kind= .function)&&(!sc.isCoroutine&&(!sc.isGenerator&&(decide ((sc.names.map (·.1)).Nodup)&&sc.names.all fun p=>decide (p.1≠Str.ofString "__debug__")&&decide (p.1≠Str.ofString "__classdict__"))))
structure iZ(sc:Scope):Prop where
 kind:sc.kind= .function
 co:sc.isCoroutine=false
 gen:sc.isGenerator=false
 nd:(sc.names.map (·.1)).Nodup
 ok: ∀p∈sc.names,p.1≠Str.ofString "__debug__"∧p.1≠Str.ofString "__classdict__"
theorem iD{sc:Scope}(h:gw sc=true):iZ sc:=by
 unfold gw at h
 simp only[aU,a9,dg,Bool.not_eq_true']at h
 obtain⟨h1,h2,h3,h4,h5⟩:=h
 exact⟨h1,h2,h3,h4,h5⟩
structure eE(D:Wd)(n:Nat)(cx:Cx):Prop where
 glob: ∀x t,cx.glob x=some t→ ∃v,nsIn D.K mainGlobals x=some (some v)∧ ∀F,D.VR F t v
 bi: ∀x∈Str.ofString "enumerate"::c9,nsIn D.K mainGlobals x=some none
 fn: ∀x c,cx.fn x=some c→ ∃v,nsIn D.K mainGlobals x=some (some v)∧keepIn D.K v=true∧cS D n v c
 pA: ∀C m c,cx.pA C m=some c→ ∃f,findIn D.K (.ref C) m=some (some (.ref f))∧isFn D.K (.ref f)=true∧keepIn D.K (.ref f)=true∧
  findIn D.K (.ref C) "__getattribute__"=some (some (.builtin "object.__getattribute__"))∧findIn D.K (.ref C) "__getattr__"=some none∧cS D n (.ref f) c
 attr: ∀C a,cx.attr C a=true→r9 D.K C a
structure rG(D:Wd)(F:FH)(sc:Scope)(cl:List (Str×Addr))(b7:St)(gY:RV):Prop where
 all: ∀x,sc.names.lookup x=some .free→ ∃c,cl.lookup x=some c
 ap:cl.Pairwise fun x y=>x.2≠y.2
 fz: ∀p∈cl,∃o,F p.2=some o
 cell: ∀h:Heap,dG F h.get?→ ∀p∈cl,∃v,h.IsCell p.2 v
 free: ∀p∈cl,sc.names.lookup p.1=some .free
 st: ∀k sl,b7.get k=some sl→ ∃t v,sl= .aw t∧gY k=some v∧D.VR F t v
 rv: ∀y v,gY (.v y)=some v→ ∃c,cl.lookup y=some c∧ ∀h:Heap,dG F h.get?→h.IsCell c (some v)
 ra: ∀y,gY (.a y)=none
 nd:(b7.map (·.1)).Nodup
 na:d5 b7=[]
theorem rG.nil{sc:Scope}(h:sc.names.all (fun p=>decide (p.2≠ .free))=true):rG D F sc [] [] fun Y=>none:=by
 refine⟨fun x e=>?_,.nil,fun Y h=>(nomatch h),fun Y Y Y h=>(nomatch h),fun Y h=>(nomatch h),fun Y Y h=>(nomatch h),fun Y Y h=>(nomatch h),fun Y=>rfl,List.nodup_nil,rfl⟩
 have:=dg.mp h _ (dR e)
 exact ew this
noncomputable abbrev fP(sc:Scope)(cl:List (Str×Addr))(L:Addr):List (Str×Addr):=cellsFrom (L+1) sc.names cl
noncomputable abbrev Na(sc:Scope)(L:Addr):Addr→Prop:=fun a=>a=L∨ ∃p∈cellsFrom (L+1) sc.names [],a=p.2
section
variable{sc:Scope}{cl:List (Str×Addr)}{b7:St}{gY:RV}
theorem l8{L:Addr}{p:Str×Addr}(hp:p∈fP sc cl L):p∈cellsFrom (L+1) sc.names []∨p∈cl:=by
 unfold fP at hp
 rw[cF]at hp
 exact List.mem_append.mp hp
theorem pe(ok:iZ sc){L:Addr}{y:Str}{c:Addr}(hy:sc.names.lookup y=some .free)(h:cl.lookup y=some c):(fP sc cl L).lookup y=some c:=by
 unfold fP
 (refine ae (cF ..) (lookup_append.trans ?_);rewrite[mj];refine Option.none_or.trans ?_)
 .exact h
 .intro p hp e
  have:=fm ok.nd (cellsFrom_names _ _ p hp)
  rw[e,hy]at this;cases this
theorem jV(ok:iZ sc){L:Addr}{y:Str}{c:Addr}(hy:sc.names.lookup y=some .cell)(h:(fP sc cl L).lookup y=some c):Na sc L c:=by
 unfold fP at h
 rw[cF,lookup_append]at h
 obtain⟨d,e⟩:=ir sc.names (L+1) y (dR hy)
 rw[e,Option.some_or]at h
 obtain rfl:=b8 h
 exact .inr ⟨_,mem_lookup e,rfl⟩
theorem SR.start(ok:iZ sc)(qs:dG F h.get?)(hb:dG D.h₀.get? F)(C:rG D F sc cl b7 gY){kH:Value}(hL:env.locals=h.objs.size)(hc:env.cells=fP sc cl h.objs.size)(hs:env.scope=sc)
 (oe: ∀i C d,me=some (i,C,d)→h.get? i=some (instObj C d)∧F i=none∧F d=none∧ ∃n,h.get? d=some (dictOf [] n)):
 SR D F (Na sc h.objs.size) env me b7 gY (pushCells (h.push { cls:=kH,data:= .dict #[]}) sc.names)∧(∀b o,h.get? b=some o→(pushCells (h.push { cls:=kH,data:= .dict #[]}) sc.names).get? b=some o)∧(∀a,Na sc h.objs.size a→h.get? a=none):=by
 have keep: ∀b o,h.get? b=some o→(pushCells (h.push { cls:=kH,data:= .dict #[]}) sc.names).get? b=some o:=fun b o e=>pushCells_keeps _ _ _ _ (bq _ e)
 have um: ∀a,h.objs.size≤a→h.get? a=none:=fun a ha=>by
  induction e:h.get? a using ab with
  |none=>rfl
  |some o=>exact absurd (cr e) (Nat.not_lt.mpr ha)
 have wn: ∀a,Na sc h.objs.size a→h.get? a=none:=by
  rintro a (rfl|⟨p,hp,rfl⟩)
  .exact um _ (bn _)
  .have:=(eh _ _).2 p hp
   exact um _ (by exact ca ‹_›)
 have GA: ∀a,h.get? a=none→F a=none:=fun a e=>by
  induction q:F a using ab with
  |none=>rfl
  |some o=>exact Sn ((qs a o q).symm.trans e)
 have cells: ∀p∈cellsFrom (h.objs.size+1) sc.names [],(pushCells (h.push { cls:=kH,data:= .dict #[]}) sc.names).IsCell p.2 none:=fun p hp=>pj sc.names (h.push _) p (by exact ae (Heap.size_push ..) hp)
 have ns:(pushCells (h.push { cls:=kH,data:= .dict #[]}) sc.names).Ns h.objs.size fun Y=>none:=(Heap.Ns.new h kH).keeps (pushCells_keeps _ _)
 have Tx:=qs.trans keep
 refine⟨⟨Tx,hb,fun a w=>GA a (wn a w),?_,?_,?_,?_,?_,?_,?_,⟨by refine ae hL ?_;exact .inl rfl,?_⟩,⟨C.nd,fun i C' d e=>?_⟩,?_,⟨_,by refine ae hL ?_;exact ns⟩,?_⟩,keep,wn⟩
 .rintro a (rfl|⟨p,hp,rfl⟩)
  .obtain⟨o,Y,Y,e,Y⟩:=ns;exact⟨o,e⟩
  .obtain⟨o,e,Y⟩:=cells p hp;exact⟨o,e⟩
 .intro k sl e
  obtain⟨t,v,rfl,h1,h2⟩:=C.st k sl e
  exact⟨v,h1,h2⟩
 .intro k sl e hh
  obtain⟨t,v,rfl,h1,h2⟩:=C.st k sl e
  exact ew hh
 .intro k k' s1 s2 a e1 e2 m1
  obtain⟨t,v,rfl,h1,h2⟩:=C.st k s1 e1
  exact ew m1
 .intro y v e
  obtain⟨c,h1,h2⟩:=C.rv y v e
  have hy:=C.free _ (mem_lookup h1)
  refine⟨fun q=>?_,fun Y=>⟨c,by refine ae hc ?_;exact pe ok hy h1,h2 _ Tx⟩⟩
  unfold Env.kindOf at q
  rw[hs,hy]at q;cases q
 .intro y v e;rw[C.ra]at e;exact nn e
 .intro i C' d e
  obtain⟨h1,h2,h3,k,h4⟩:=oe i C' d e
  exact⟨keep _ _ h1,h2,h3,[],k,keep _ _ h4⟩
 .intro p hp
  rw[hc]at hp
  rcases l8 hp with q|q
  .exact .inl (.inr ⟨p,q,rfl⟩)
  .exact .inr (C.fz p q)
 .obtain⟨h1,h2,h3,k,h4⟩:=oe i C' d e
  exact⟨[],k,keep _ _ h4,by refine ae C.na ?_;rfl,by refine ae C.na ?_;rfl⟩
 .intro i C' d e
  obtain⟨h1,h2,h3,k,h4⟩:=oe i C' d e
  exact⟨fun w=>(by exact fU (wn _ w) h1),fun w=>(by exact fU (wn _ w) h4)⟩
 .intro p hp
  rw[hc]at hp
  rcases l8 hp with q|q
  .exact⟨_,cells p q⟩
  .exact C.cell _ Tx p q
theorem cy.start(ok:iZ cx.sc)(tc:eE D n cx)(qs:dG F h.get?)(C:rG D F cx.sc cl b7 gY)(hL:env.locals=h.objs.size)(hc:env.cells=fP cx.sc cl h.objs.size)(hs:env.scope=cx.sc)(Ax:cx.sd=true→kdsCode D.K env.code=true)
 (hg:env.globals=mainGlobals) (hb:env.builtins=builtinsNs):cy D n cx env:=by
 have kind: ∀y,env.kindOf y=cx.sc.names.lookup y:=fun y=>by unfold Env.kindOf;exact ae hs rfl
 have old: ∀p∈cl,p.2<h.objs.size:=fun p hp=>by obtain⟨o,e⟩:=C.fz p hp;exact cr (qs _ _ e)
 refine⟨by refine ae hs ?_;exact ok.kind,?_,?_,Ax,?_,hg,hb,fun y e=>(kind y).trans e,fun y e=>(kind y).trans e,fun y e=>(kind y).trans e,fun y e=> .inl ((kind y).trans e),?_,tc.glob,tc.bi,tc.fn,tc.pA,tc.attr⟩
 .refine ae hc ?_;unfold fP
  refine ae (cF ..) ?_
  refine List.pairwise_append.mpr ⟨(eh _ _).1,C.ap,fun a ha b hb=>?_⟩
  have h1:=(eh cx.sc.names (h.objs.size+1)).2 a ha
  have h2:=old b hb
  exact Nat.ne_of_gt (bT h2 (Nat.le_of_succ_le h1))
 .intro p hp
  rw[hc]at hp
  refine ae hL ?_
  rcases l8 hp with q|q
  .exact Nat.ne_of_gt ((eh _ _).2 p q)
  .exact dq (old p q)
 .intro y k e hk
  refine ae hc ?_
  rcases hk with rfl|rfl
  .obtain⟨c,e⟩:=ir cx.sc.names (h.objs.size+1) y (dR e)
   exact⟨c,by unfold fP;exact ae (cF ..) (lookup_append.trans (ae e rfl))⟩
  .obtain⟨c,q⟩:=C.all y e
   exact⟨c,pe ok e q⟩
 .intro y k e
  obtain⟨a,b⟩:=ok.ok _ (dR e)
  exact⟨by simpa using a,by simpa using b⟩
structure BU(fd:FuncData)(ps:List Str)(body:List Stmt)(DK:Scope):Prop where
 po:fd.params.posonlyargs=[]
 va:fd.params.vararg=none
 ko:fd.params.kwonlyargs=[]
 kw:fd.params.kwarg=none
 ar:fd.params.args.map (·.arg)=ps
 nd:ps.Nodup
 body:fd.body= .stmts body
 sc:fd.scope=DK
 gl:fd.globals=mainGlobals
 bu:fd.builtins=builtinsNs
 loc: ∀p∈ps,DK.names.lookup p=some .local∨DK.names.lookup p=some .cell
theorem u4(hn:20≤n)(tc:eE D n cx)(ok:iZ cx.sc){f:Addr}{fd:FuncData}{ps:List Str}{body:List Stmt}{vs ds:List Value}{bj:FH}{aZ:Shared}{M O:Addr→Prop}{lv:Option Value}{aR:St}{kI:RV}{k:St→aH}
 {R:Result→Shared→Prop}
 (ho:s.heap.get? f=some o) (hd:o.data= .func fd) (sh:BU fd ps body cx.sc) (NJ:s.heap.CodeRec fd.code fd.qualname) (pG:rY s.heap fd.defaults ds) (Ax:cx.sd=true→kdsCode D.K fd.code=true)
 (C:rG D F cx.sc fd.closure b7 gY) (hA:ey A (n+1)) (hb:dG D.h₀.get? F) (qs:dG F s.heap.get?) (hl:vs.length≤ps.length) (hz:ps.length≤vs.length+ds.length) (pK:ds.length≤1)
 (oe: ∀i C d,me=some (i,C,d)→s.heap.get? i=some (instObj C d)∧F i=none∧F d=none∧aZ.heap.get? d=none∧ ∃n,s.heap.get? d=some (dictOf [] n))
 (gE: ∀{env:Env}{W:Addr→Prop}{h:Heap}{Q:PUnit→Shared→Prop}{E:Value→Shared→Prop}{A:Around},Pl env→SR D F W env me b7 gY h→(∀b o,s.heap.get? b=some o→h.get? b=some o)→(∀a,W a→s.heap.get? a=none)→
   (∀p∈ps,env.kindOf p=some .local∨(env.kindOf p=some .cell∧ ∃c,env.cells.lookup p=some c∧W c))→
   (∀h' tk,SR D F W env me aR kI h'→(∀b o,¬W b→h.get? b=some o→h'.get? b=some o)→(∀b,h.get? b≠none→h'.get? b≠none)→Q ⟨⟩ { s with heap:=h',toks:=tk })→
   wpAny (model D.prog D.w) A (forIn (ps.zip (vs++ds)) ⟨⟩ fun(p:Str×Value)(_:PUnit)=>storeName env p.1 p.2 >>= fun Y=>pure (ForInStep.yield PUnit.unit)) Q E { s with heap:=h })
 (ql: ∃h tk,s={ aZ with heap:=h,toks:=tk }) (GW:dG bj F) (KJ: ∀b o,F b=some o→bj b=some o∨aZ.heap.get? b=none∨O b) (NE: ∀b o,aZ.heap.get? b=some o→s.heap.get? b=some o)
 (jM: ∀k t b,aR.get k=some (.own t)→kI k=some (.ref b)→O b) (UM: ∀k t,aR.get k=some (.cK t)→kI k=lv) (mo: ∀b,O b→M b) (ml: ∀b,lv=some (.ref b)→M b)
 (kJ:bF m cx body aR k=some out)
 (RZ: ∀{W:Addr→Prop}{env:Env}{v:Value}{s':Shared},ee D cx env me (fun Y=>none) bj aZ M O lv W k out (.ret v) s'→R (.ok (.ret v)) s')
 (GS: ∀{W:Addr→Prop}{env:Env}{s':Shared},ee D cx env me (fun Y=>none) bj aZ M O lv W k out .next s'→R (.ok (.ret .none)) s'):
 codeAny (model D.prog D.w) A (.call (.ref f) ⟨vs,[]⟩) R s:=by
 have y5:fd.scope=cx.sc:=sh.sc
 refine codeAny_call_function (by have:=hA.dp;exact aX (bN _ _) (Nat.lt_trans this (by decide))) ho hd (by exact ae y5 ok.co) (by exact ae y5 ok.gen) sh.body NJ ?_
 refine sZ sh.po rfl sh.va sh.ko sh.kw sh.ar sh.nd pG hl hz pK ?_
 refine ae y5 (ae sh.gl (ae sh.bu ?_))
 refine v6 ?_
 have kf: ∀{x y:Option Env}{h:(none:Option Env).isSome=true},False:=fun{_ _ h}=>nomatch h
 generalize R5:(Value.type (if(none:Option Env).isSome=true then "dict" else "frame"))=kH
 generalize kK:newEnv cx.sc s.heap.objs.size mainGlobals (cellsFrom (s.heap.objs.size+1) cx.sc.names fd.closure) (fd.qualname++".<locals>.") (some f) fd.code none builtinsNs=env
 have e1:env.locals=s.heap.objs.size:=by exact ft kK rfl
 have e2:env.cells=fP cx.sc fd.closure s.heap.objs.size:=by exact ft kK rfl
 have e3:env.scope=cx.sc:=by exact ft kK rfl
 have e4:env.code=fd.code:=by exact ft kK rfl
 have e5:env.globals=mainGlobals:=by exact ft kK rfl
 have e6:env.builtins=builtinsNs:=by exact ft kK rfl
 obtain⟨S,keep,wn⟩:=SR.start (me:=me) ok qs hb C (kH:=kH) e1 e2 e3 fun i C d e=>by obtain⟨a,b,c,Y,g⟩:=oe i C d e;exact⟨a,b,c,g⟩
 have hc:=cy.start ok tc qs C e1 e2 e3 (by exact ae e4 Ax) e5 e6
 refine gE hc.pl S keep wn (fun p hp=>?_) fun h' tk S' k1 al=>?_
 .rcases sh.loc p hp with q|q
  .exact .inl (hc.nl p q)
  .obtain⟨c,e⟩:=hc.cs p _ q (.inl rfl)
   exact .inr ⟨hc.nc p q,c,e,jV ok q (by exact ft e2 e)⟩
 .have kS: ∀b o,s.heap.get? b=some o→h'.get? b=some o:=fun b o e=>k1 b o (fun w=>by exact fU (wn b w) e) (keep b o e)
  refine⟨D.nolimit.keeps fun b o e=>S'.fz b o (S'.base b o e),codeAny_func ?_⟩
  have r:cT cx env me (fun Y=>none) bj aZ M O lv F (Na cx.sc s.heap.objs.size) aR kI { s with heap:=h',toks:=tk }:=by
   obtain⟨h0,t0,S9⟩:=ql
   refine⟨⟨h',tk,by exact ae S9 rfl⟩,GW,KJ,fun b o e Y=>kS b o (NE b o e),fun b e=>?_,fun k t b h1 h2=> .inr (jM k t b h1 h2),UM,mo,ml,fun a w=>?_,fun x c h1 h2=>jV ok h1 (by exact ft e2 h2),fun b o e=>(nomatch e),fun i C d e=>⟨(oe i C d e).2.2.2.1,rfl⟩⟩
   .induction q:aZ.heap.get? b using ab with
    |none=>exact absurd q e
    |some o=>exact ae (show({ s with heap:=h',toks:=tk }:Shared).heap.get? b=some o from kS b o (NE b o q)) (fun z=>nomatch z)
   .induction q:aZ.heap.get? a using ab with
    |none=>rfl
    |some o=>have:=NE a o q;exact fU (wn a w) this
  refine wm ((x9 hn m).2 kJ hA.deeper hc S' r) (fun fl s' hp=>?_)
  induction fl using Flow.casesOn with
  |next=>exact GS hp
  |ret v=>exact RZ hp
  |_=>exact hp.elim
end
noncomputable def Ky(m:Nat)(cx:Cx)(ps:List Str)(body:List Stmt)(aY:List c8)(dflt:List MV):ej where
 aY:=aY
 own:=cx.own
 run ts K:=bif(decide (ts.length≤ps.length)&&decide (ps.length≤ts.length+dflt.length))&&decide (aY.length≤ts.length)then
     (bF m cx body (d6 fg ps aY (ts++dflt) []) fun st=>bif !cx.own then some (.none,ci st)else none).bind fun q=>bif q.2.isSome==aY.any j5 then K q.1 q.2 else none
  else none
section
theorem ef.len(x:ef D F h ms ts vs):ts.length=vs.length:=by
 induction x with
 |nil=>rfl
 |cons _ _ ih=>exact aB (· +1) ih
theorem ef.app{dt:List MV}{ds:List Value}(hd:D.dm F dt ds)(x:ef D F h ms ts vs):ms.length≤ts.length→ef D F h ms (ts++dt) (vs++ds):=by
 induction x with
 |nil=>
  intro hl
  obtain rfl:=bM.mp (Nat.le_zero.mp hl)
  exact kn hd
 |cons a _ ih=>exact fun hl=> .cons a (ih (by rw[List.length_tail];exact Nat.sub_le_of_le_add hl))
theorem C6{ds vs:List Value}: ∀{ms:List c8},ms.length≤vs.length→bQ ms (vs++ds)=bQ ms vs∧cq ms (vs++ds)=cq ms vs∧cU ms (vs++ds)=cU ms vs:=by
 induction vs with
 |nil=>
  intro ms hl
  obtain rfl:=bM.mp (Nat.le_zero.mp hl)
  exact⟨im _,A4 _,oS _⟩
 |cons v vs ih=>
  intro ms hl
  obtain⟨a,b,c⟩:=ih (ms:=ms.tail) (by rw[List.length_tail];exact Nat.sub_le_of_le_add hl)
  exact⟨aB (oy _ v) a,aB (tK _ v) b,aB (GB _ v) c⟩
theorem rF.adr{m:c8}{l:List Addr}{c:Addr}(x:rF D F h m t v)(hc:c∈oy m v l):c∈l∨ ∃o,h.get? c=some o:=by
 have go (x:D.f0 F h.get? t v∧j3 h v∧fS t=true∧ ∃a,v= .ref a∧F a=none) (hc:c∈Mine.adr v l):c∈l∨ ∃o,h.get? c=some o:=by
  obtain⟨Y,q2,Y,b,rfl,Y⟩:=x
  rcases aA.mp hc with rfl|hc
  .obtain⟨o,e,Y⟩:=q2 _ rfl
   exact .inr ⟨o,e⟩
  .exact .inl hc
 induction m using c8.casesOn with
 |aw=>exact .inl hc
 |own=>exact go x hc
 |lend=>exact go x hc
theorem ef.ex(x:ef D F h ms ts vs): ∀a∈bQ ms vs,∃o,h.get? a=some o:=by
 induction x with
 |nil=>exact fun Y q=>jZ q
 |cons a _ ih=>exact fun b q=>(a.adr q).elim (ih b) id
theorem i9: ∀{st:St}{t:MV},st.nd→ci st=some t→ ∃k,st.get k=some (.cK t):=by
 intro l_
 induction l_ with
 |nil=>intro t Y h;exact nn h
 |cons p_ r ih=>
  obtain⟨k,sl⟩:=p_
  intro t hn h
  have hr:(∃t',sl= .cK t'∧t'=t)∨ci r=some t:=by
   induction sl using Slot.casesOn<;>simp only[ci]at h<;>first|exact .inr h|(obtain rfl:=b8 h;exact .inl ⟨_,rfl,rfl⟩)
  clear h;rcases hr with⟨t',rfl,rfl⟩|h
  .exact⟨k,by exact aF rfl⟩
  .unfold St.nd at hn
   rw[bv,bC]at hn
   obtain⟨k',e⟩:=ih hn.2 h
   refine⟨k',?_⟩
   unfold St.get
   rw[az]
   .exact e
   .intro q
    exact hn.1 (q▸List.mem_map_of_mem (f:=(·.1)) (d9 e))
theorem uR{Pr bj F':FH}{aZ s':Shared}{M O:Addr→Prop}{lv:Option Value}{bB:St}{fx:RV}(S:SR D F' W env me bB fx s'.heap)(r:cT cx env me Pr bj aZ M O lv F' W bB fx s')(h:lv.isSome=(ci bB).isSome):yv D F' s'.heap lv (ci bB):=by
 induction e:ci bB using ab with
 |none=>
  rw[e]at h
  clear r;induction lv using ab with
  |none=>trivial
  |some v=>exact Gy h
 |some t=>
  rw[e]at h
  induction lv using ab with
  |none=>exact ew h
  |some v=>
   obtain⟨k,hk⟩:=i9 S.nd e
   have hv:=r.kG k t hk
   clear r h;obtain⟨w,h1,h2⟩:=S.sl k _ hk
   obtain rfl:=dZ hv h1
   obtain⟨a,h3,h4,Y⟩:=S.held k _ hk rfl
   obtain rfl:=dZ hv h3
   exact⟨h2.1,h2.2.1,h2.2.2,fun b e=>by obtain rfl:=eM e;exact h4⟩
theorem H3{ps:List Str}{body:List Stmt}{aY:List c8}{dflt:List MV}(hn:20≤n)(tc:eE D n cx)(ok:gw cx.sc=true)(uu:cx.sc.names.all (fun p=>decide (p.2≠ .free))=true)
 {f:Addr} {o:Obj} {fd:FuncData} {ds:List Value} (ho:D.K.lookup f=some o) (hd:o.data= .func fd) (sh:BU fd ps body cx.sc) (Ki:fd.closure=[]) (Tn:codeIn D.K fd.code fd.qualname=true) (Ax:kdsCode D.K fd.code=true)
 (pG: ∀h:Heap,D.K.In h→rY h fd.defaults ds) (GX: ∀F,D.dm F dflt ds) (NB:mD aY=true) (pK:dflt.length≤1):cS D (n+1) (.ref f) (Ky m cx ps body aY dflt):=by
 intro A F s ts vs K res Q E hA hb qs jQ tz kJ hq
 have X:D.K.In s.heap:=fun a o e=>qs _ _ (hb _ _ (D.X a o e))
 dsimp only[Ky]at jQ tz hq
 obtain⟨hl,kJ⟩:=aJ kJ
 simp only[aU,a9]at hl
 obtain⟨⟨l1,l2⟩,l3⟩:=hl
 obtain⟨⟨r',o'⟩,Ay,kJ⟩:=cL kJ
 .obtain⟨I3,kJ⟩:=aJ kJ
  rw[beq_iff_eq]at I3
  have Yb:=jQ.len
  have Yd:dflt.length=ds.length:=by
   have:=(kn (GX F) (h:=s.heap)).len
   exact this
  obtain⟨m1,m2,m3⟩:=C6 (ms:=aY) (vs:=vs) (ds:=ds) (by lia)
  have nM:=jQ.app (GX F) l3
  have Kd:(cU aY vs).isSome=aY.any j5:=by
   induction q:aY.any j5 using ag with
   |false=>exact ae (pd q) rfl
   |true=>obtain⟨v,e⟩:=wv (vs:=vs) q (by lia);exact ae e rfl
  refine wpAny_call (u4 (b7:=[]) (gY:=fun Y=>none) (me:=none) (bj:=F) (aZ:=s) (M:=(· ∈bQ aY vs)) (O:=(· ∈cq aY vs)) (lv:=cU aY vs) (kI:=jp ps (vs++ds) fun Y=>none) hn tc (iD ok) (X _ _ ho) hd sh (codeRec_of X Tn) (pG _ X) (fun Y=>Ax) (by exact ae Ki (rG.nil uu)) hA hb qs
   (by lia) (by lia) (by lia) (fun i C d e=>nomatch e) ?_ ⟨s.heap,s.toks,rfl⟩ (dG.refl F) (fun Y Y e=> .inl e) (fun Y Y e=>e) ?_ ?_ (fun b q=>yF q) ((fun Y=>H9)) Ay ?_ ?_)
  .intro env W h Q E A hp S keep wn qA go
   have hm: ∀a∈bQ aY (vs++ds),¬W a∧ ¬dh [] (fun Y=>none) a∧ ∀i C d,(none:Me)=some (i,C,d)→a≠i∧a≠d:=by
    refine ae m1 ?_
    intro a ha
    obtain⟨o,e⟩:=jQ.ex a ha
    exact⟨fun w=>(by exact fU (wn a w) e),by rintro⟨k,s,e,_,_⟩;exact(nomatch e),fun Y Y Y e=>(nomatch e)⟩
   refine ic (s:={ s with heap:=h }) hp qA S (nM.keep fun a Y o e=>keep a o e) (by exact ae m1 tz) hm fun h' tk S' k1 al=>?_
   exact go h' tk (S'.Bu (kU (lr.refl []))) k1 al
  .intro k t b h1 h2
   rcases yu nM k t b h1 h2 with⟨q,Y⟩|q
   .exact nn q
   .rw[m2]at q;exact q
  .intro k t h1
   rcases u8 (rv:=fun Y=>none) nM NB k t h1 with⟨q,Y⟩|⟨v,q1,q2⟩
   .exact nn q
   .exact q2.trans (ft m3 (ae q1 rfl))
  .rintro W env v s' ⟨F',bB,fx,t,he,S,fr,j0,hf⟩
   obtain⟨rfl,rfl⟩:=cV he
   obtain⟨h',n9,rfl⟩:=fr.sh
   refine hq F' h' n9 v _ _ kJ fr.le S.fz fr.new fr.keep fr.alive ?_ ?_
   .exact uR S fr (by exact Kd.trans (ae I3 rfl))
   .induction jM:cx.own using ag with
    |false=>rw[jM]at j0;exact j0
    |true=>
     rw[jM]at j0
     obtain⟨⟨a,rfl,h1,h2,h3,h4⟩,h5,h6,h7⟩:=j0
     exact⟨h5,h6,h7,a,rfl,hf jM _ rfl,h1⟩
  .rintro W env s' ⟨F',bB,fx,hk,S,fr⟩
   obtain⟨jM,hk⟩:=aJ hk
   obtain⟨rfl,rfl⟩:=cV (b8 hk)
   rw[Bool.not_eq_true']at jM
   obtain⟨h',n9,rfl⟩:=fr.sh
   refine hq F' h' n9 .none _ _ kJ fr.le S.fz fr.new fr.keep fr.alive ?_ ?_
   .exact uR S fr (by exact Kd.trans (I3.symm))
   .exact ae jM (dO.mpr ⟨[],⟨rfl,rfl⟩,dm.nil⟩)
end
noncomputable def N7(st:St):Bool:=st.all fun p=>match p.2 with| .ro _=>false|_=>true
noncomputable def DR(m:Nat)(cx:Cx)(C:Addr)(self:Str)(ps:List Str)(body:List Stmt)(dflt:List MV):ej where
 aY:=[]
 own:=false
 run ts K:=bif decide (ts.length≤ps.length)&&decide (ps.length≤ts.length+dflt.length)then
     MU (bF m cx body (d6 fg ps [] (ts++dflt) [(.v self,.me C)]) fun st=>bif N7 st then(iB st).bind fun q=>some (.inst C q.1 q.2,some .none)else none) fun r Y=>K r none
  else none
section
noncomputable def FH.cover(F:FH)(h:Heap)(st:St)(rv:RV)(i d:Addr):FH:=fun b=>open Classical in if b=i∨b=d∨dh st rv b then h.get? b else F b
theorem yJ{i C d:Addr}{ns:List Str}{us:List MV}(S:SR D F W env (some (i,C,d)) st rv h)(hm:iB st=some (ns,us)):
 dG F (F.cover h st rv i d)∧dG (F.cover h st rv i d) h.get?∧(∀b o,F.cover h st rv i d b=some o→F b=some o∨b=i∨b=d∨dh st rv b)∧D.VR (F.cover h st rv i d) (.inst C ns us) (.ref i):=by
 obtain⟨m1,m2,m3,es,k,m4⟩:=S.me i C d rfl
 obtain⟨I6,k',e1,e2,e3⟩:=S.ma.2 i C d rfl
 rw[m4]at e1
 obtain⟨rfl,rfl⟩:es=I6∧k=k':=by
  have:=aB (fun o:Option Obj=>o.map (·.data)) e1
  simpa using this
 have Ye: ∀b,(b=i∨b=d∨dh st rv b)→F b=none:=by
  clear m1 m4;rintro b (rfl|rfl|⟨k,s,q1,q2,q3⟩)
  .exact m2
  .exact m3
  .obtain⟨a,w1,w2,Y⟩:=S.held k s q1 q2
   obtain rfl:=eM (dZ q3 w1);exact w2
 have on: ∀b,(b=i∨b=d∨dh st rv b)→F.cover h st rv i d b=h.get? b:=fun b q=>by exact aF q
 have jH: ∀b,¬(b=i∨b=d∨dh st rv b)→F.cover h st rv i d b=F b:=fun b q=>by exact az q
 have le:dG F (F.cover h st rv i d):=fun b o e=>by
  exact(jH b fun q=>by rw[Ye b q]at e;cases e).trans e
 have keys:=xQ hm
 refine⟨le,fun b o e=>?_,fun b o e=>?_,dO.mpr ⟨es.map (·.val),⟨i,d,es,k,rfl,(on i (.inl rfl)).trans m1,(on d (.inr (.inl rfl))).trans m4,by exact e2.trans (ae keys rfl),rfl⟩,?_⟩⟩
 .by_cases q:b=i∨b=d∨dh st rv b
  .rw[on b q]at e;exact e
  .rw[jH b q]at e;exact S.fz b o e
 .by_cases q:b=i∨b=d∨dh st rv b
  .exact .inr q
  .rw[jH b q]at e;exact .inl e
 .refine xP (st:=st) (rv:=rv) (fun k sl e=>?_) (St.get_mem S.ma.1) hm (by exact List.map_map.trans e3)
  obtain⟨v,h1,h2⟩:=S.sl k sl e
  refine⟨v,h1,fun t ht=>?_⟩
  have other:sl.dX=true→ ∀t,D.f0 F h.get? t v∧j3 h v∧fS t=true→D.VR (F.cover h st rv i d) t v:=by
   clear h2;rintro hh t ⟨q1,q2,q3⟩
   refine dO.mpr (q1.box q3 le fun a o z w=>?_)
   clear q1 q2;subst z
   exact(on a (.inr (.inr ⟨k,sl,e,hh,h1⟩))).trans w
  induction sl using Slot.casesOn with
  |aw u=>obtain rfl:=b8 ht;exact VR.mono le h2
  |own u=>obtain rfl:=b8 ht;exact other rfl _ h2
  |cK u=>obtain rfl:=b8 ht;exact other rfl _ h2
  |ro u=>obtain rfl:=b8 ht;exact other rfl _ h2
  |me C=>exact nn ht
theorem Fy{C:Addr}{self:Str}{ps:List Str}{body:List Stmt}{dflt:List MV}(hn:20≤n)(tc:eE D n cx)(ok:gw cx.sc=true)(uu:cx.sc.names.all (fun p=>decide (p.2≠ .free))=true)(jM:cx.own=false)
 {f:Addr} {o:Obj} {fd:FuncData} {ds:List Value} (YL:makesIn D.K C=true) (hi:findIn D.K (.ref C) "__init__"=some (some (.ref f))) (hf:typeIn D.K (.ref f)=some (.type "function"))
 (ho:D.K.lookup f=some o) (hd:o.data= .func fd) (sh:BU fd (self::ps) body cx.sc) (Ki:fd.closure=[]) (Tn:codeIn D.K fd.code fd.qualname=true) (Ax:kdsCode D.K fd.code=true)
 (pG: ∀h:Heap,D.K.In h→rY h fd.defaults ds) (GX: ∀F,D.dm F dflt ds) (pK:dflt.length≤1):cS D (n+2) (.ref C) (DR m cx C self ps body dflt):=by
 intro A F s ts vs K res Q E hA hb qs jQ tz kJ hq
 have X:D.K.In s.heap:=fun a o e=>qs _ _ (hb _ _ (D.X a o e))
 dsimp only[DR]at jQ tz hq
 obtain⟨hl,kJ⟩:=aJ kJ
 simp only[aU,a9]at hl
 obtain⟨l1,l2⟩:=hl
 obtain⟨r',o',Ay,kJ⟩:=rl kJ
 .have Yb:=jQ.len
  have Yd:dflt.length=ds.length:=(kn (GX F) (h:=s.heap)).len
  have nM:=jQ.app (GX F) (Nat.zero_le _)
  obtain⟨hh,g,dr,t,os⟩:=s
  refine wpAny_call (make_core (makes_of X YL) (looks_findIn X hi) (fun self=>bind_fn X self hf) (.inl rfl) ?_)
  have M9:ey (A.under (.builtin "type.__call__" ⟨.ref C::vs,[]⟩)) (n+1):=⟨hA.hh,by have:=hA.dp;refine(?_:A.depth+1+(n+1)<900);exact V5 ‹_›,by have:=hA.un;refine(?_:A.units+1+10*(n+1)<9000);exact V6 (by decide) ‹_›⟩
  have WX:hh.get? (hh.objs.size+1)=none:=by
   induction e:hh.get? (hh.objs.size+1)using ab with
   |none=>rfl
   |some o=>exact absurd (cr e) (Nat.not_lt.mpr (Nat.le_succ _))
  have Tz:hh.get? hh.objs.size=none:=cE hh
  have GA: ∀a,hh.get? a=none→F a=none:=fun a e=>by
   induction q:F a using ab with
   |none=>rfl
   |some o=>have:=qs a o q;exact fU e this
  have k0: ∀b o,hh.get? b=some o→((hh.push emptyDict).push (instObj C hh.objs.size)).get? b=some o:=fun b o e=>bq _ (bq _ e)
  have hx:((hh.push emptyDict).push (instObj C hh.objs.size)).get? (hh.objs.size+1)=some (instObj C hh.objs.size):=by heap_get
  have Tj:((hh.push emptyDict).push (instObj C hh.objs.size)).get? hh.objs.size=some (dictOf [] 0):=by
   refine bq _ ?_
   exact bt _ rfl
  have X':D.K.In ((hh.push emptyDict).push (instObj C hh.objs.size)):=X.keeps k0
  refine u4 (n:=n) (vs:= .ref (hh.objs.size+1)::vs) (b7:=[]) (gY:=fun Y=>none) (me:=some (hh.objs.size+1,C,hh.objs.size)) (F:=F) (bj:=F) (aZ:=⟨hh,g,dr,t,os⟩) (M:=fun Y=>False) (O:=fun Y=>False) (lv:=none) (ds:=ds)
   (kI:=jp ps (vs++ds) (RV.set (fun Y=>none) (.v self) (.ref (hh.objs.size+1)))) hn tc (iD ok) (X' _ _ ho) hd sh (codeRec_of X' Tn) (pG _ X') (fun Y=>Ax) (by exact ae Ki (rG.nil uu)) M9 hb (qs.trans k0)
   (by simp only[bw];lia) (by simp only[bw];lia) (by lia) ?_ ?_ ⟨_,_,rfl⟩ (dG.refl F) (fun Y Y e=> .inl e) k0 ?_ ?_ (fun b q=>q.elim) (fun b q=>nomatch q) Ay ?_ ?_
  .intro i C' d e
   cases e
   exact⟨hx,GA _ WX,GA _ Tz,Tz,0,Tj⟩
  .intro env W h Q E A hp S keep wn qA go
   refine ae List.cons_append (ae List.zip_cons_cons (ae (List.forIn_cons ..) ?_))
   refine ak (ak (gv (s:={ (⟨hh,g,dr,t,os⟩:Shared)with heap:=h }) (sl:= .me C) hp S (qA self (.head _)) ⟨_,_,rfl,rfl⟩ fun h' tk S' k1 Y al=>av ?_))
   refine ic (ms:=[]) (ts:=ts++dflt) hp (fun p hp=>qA p (.tail _ hp)) S' (nM.keep (by exact ae (im ..) (fun Y q=>nomatch q))) (by exact ae (im ..) List.nodup_nil) (by exact ae (im ..) (fun Y q=>nomatch q)) fun Kj n9 BF k2 TJ=>?_
   exact go Kj n9 (BF.Bu (kU (lr.refl _))) (fun b o nw e=>k2 b o nw (k1 b o nw e)) fun b e=>TJ b (al b e)
  .intro k t b h1 h2
   rcases yu nM k t b h1 h2 with⟨q,Y⟩|q
   .unfold St.get at q
    split at q
    .cases q
    .exact nn q
   .rw[A4]at q;exact jZ q
  .intro k t h1
   rcases u8 (rv:=RV.set (fun Y=>none) (.v self) (.ref (hh.objs.size+1))) nM rfl k t h1 with⟨q,Y⟩|⟨v,q1,q2⟩
   .unfold St.get at q
    split at q
    .cases q
    .exact nn q
   .rw[oS]at q1;exact nn q1
  .rintro W env v s' ⟨F',bB,fx,t,he,S,fr,j0,hf⟩
   simp only[Prod.mk.injEq]at he
   obtain⟨k,hk⟩:=i9 S.nd he.2.symm
   obtain⟨a,q,Y⟩:=S.held k _ hk rfl
   exact fU (fr.kG k _ hk) q
  .clear Ay;rintro W env s' ⟨F',bB,fx,hk,S,fr⟩
   obtain⟨Yw,hk⟩:=aJ hk
   obtain⟨⟨ns,us⟩,YM,hk⟩:=cL hk
   .obtain⟨rfl,Y⟩:=cV (b8 hk)
    obtain⟨h',n9,rfl⟩:=fr.sh
    obtain⟨q1,q2,q3,q4⟩:=yJ S YM
    refine⟨rfl,hq _ h' n9 _ _ _ kJ (fr.le.trans q1) q2 ?_ (fun b o e Y=>fr.keep b o e id) fr.alive ?_ q4⟩
    .intro b o e
     rcases q3 b o e with q|rfl|rfl|⟨k,sl,w1,w2,w3⟩
     .exact(fr.new b o q).imp id fun z=> .inl (z.resolve_right id)
     .exact .inr (.inl WX)
     .exact .inr (.inl Tz)
     .refine .inr (.inl ?_)
      induction sl using Slot.casesOn with
      |own t=>exact(fr.own k t b w1 w3).resolve_right id
      |cK t=>exact fU (fr.kG k t w1) w3
      |ro t=>
       have:=dg.mp Yw _ (d9 w1)
       exact ew this
      |_=>exact ew w2
    .refine ae (oS ..) ?_;trivial
end
noncomputable def Ez(d:Data):Option FuncData:=match d with| .func fd=>some fd|_=>none
theorem z9{d:Data}{fd:FuncData}(h:Ez d=some fd):d= .func fd:=by
 induction d using Data.casesOn with
 |func x=>exact aB _ (b8 h)
 |_=>exact nn h
noncomputable def Jk(d:Data):Option (List Value):=match d with| .seq xs _=>some xs.toList|_=>none
theorem B9{d:Data}{l:List Value}(h:Jk d=some l): ∃n,d= .seq l.toArray n:=by
 induction d using Data.casesOn with
 |seq xs n=>exact⟨n,b8 h▸rfl⟩
 |_=>exact nn h
noncomputable def gd(b:Bool):Option Unit:=bif b then some ()else none
theorem Ew{b:Bool}{u:Unit}(h:gd b=some u):b=true:=by
 induction b using ag with
 |false=>exact nn h
 |true=>rfl
theorem rI{α:Type}{x:Option α}(h:x.isSome=true): ∃a,x=some a:=by
 induction x using ab with
 |none=>exact ew h
 |some a=>exact⟨a,rfl⟩
noncomputable def K3{α:Type}(x:Option α)(p:α→Bool):Bool:=match x with|some a=>p a|none=>false
theorem OQ{α:Type}{x:Option α}{p:α→Bool}(h:K3 x p=true): ∃a,x=some a∧p a=true:=by
 induction x using ab with
 |none=>exact ew h
 |some a=>exact⟨a,rfl,h⟩
noncomputable def Kx(v:Value)(t:MV):Option Unit:=match v with
 | .int i _=>dI t fun j=>gd (i==j)
 | .str s _=>BM t fun u=>gd (s==u)
 |_=>none
theorem A7{u:Unit}(h:Kx v t=some u)(F:FH):D.VR F t v:=by
 induction v using Value.casesOn with
 |int i tk=>
  obtain⟨j,rfl,h⟩:=dE h
  exact .mk (t:= .int j) ⟨⟨tk,aB (Value.int · tk) (eq_of_beq (Ew h))⟩,rfl⟩ .nil
 |str s tk=>
  obtain⟨j,rfl,h⟩:=oX h
  exact .mk (t:= .str j) ⟨⟨tk,aB (Value.str · tk) (eq_of_beq (Ew h))⟩,rfl⟩ .nil
 |_=>exact nn h
noncomputable def WZ(K:Frag)(f:Addr):Option FuncData:=(K.lookup f).bind fun o=>Ez o.data
noncomputable def gi(K:Frag)(f:Addr):FuncData:=(WZ K f).getD default
noncomputable def Hr:FuncBody→List Stmt
 | .stmts b=>b
 | .expr _=>[]
noncomputable def aL(K:Frag)(f:Addr):List Stmt:=Hr (gi K f).body
noncomputable def rB(K:Frag)(f:Addr):List Str:=(gi K f).params.args.map (·.arg)
noncomputable def dF(K:Frag)(f:Addr):Scope:=(gi K f).scope
noncomputable def Ig:FuncBody→Bool
 | .stmts _=>true
 | .expr _=>false
noncomputable def FR(K:Frag)(f:Addr):Bool:=(WZ K f).isSome
noncomputable def KQ(K:Frag)(v:Value):Option (List Value):=match v with
 | .none=>some []
 | .ref T=>(K.lookup T).bind fun o=>Jk o.data
 |_=>none
noncomputable def lP(K:Frag)(f:Addr):Bool:=FR K f&&((gi K f).params.posonlyargs.isEmpty&&((gi K f).params.vararg.isNone&&((gi K f).params.kwonlyargs.isEmpty&&((gi K f).params.kwarg.isNone&&(decide (rB K f).Nodup&&(Ig (gi K f).body&&
 (decide ((gi K f).globals=mainGlobals)&&(decide ((gi K f).builtins=builtinsNs)&&((rB K f).all (fun p=>decide ((dF K f).names.lookup p=some .local∨(dF K f).names.lookup p=some .cell))&&
 ((gi K f).closure.isEmpty&&(codeIn K (gi K f).code (gi K f).qualname&&(kdsCode K (gi K f).code&&(gw (dF K f)&&(dF K f).names.all (fun p=>decide (p.2≠ .free)))))))))))))))
structure FnAt(K:Frag)(f:Addr):Prop where
 ho: ∃o,K.lookup f=some o∧o.data= .func (gi K f)
 sh:BU (gi K f) (rB K f) (aL K f) (dF K f)
 cl:(gi K f).closure=[]
 cd:codeIn K (gi K f).code (gi K f).qualname=true
 kd:kdsCode K (gi K f).code=true
 ok:gw (dF K f)=true
 free:(dF K f).names.all (fun p=>decide (p.2≠ .free))=true
theorem wc{K:Frag}{f:Addr}(h:lP K f=true):FnAt K f:=by
 unfold lP at h
 simp only[aU,List.isEmpty_iff,Option.isNone_iff_eq_none,a9]at h
 obtain⟨a,b,c,d,e,g,i,j,k,l,m,n,o,p,q⟩:=h
 refine⟨?_,⟨b,c,d,e,rfl,g,?_,rfl,j,k,fun x hx=>aj (dg.mp l x hx)⟩,m,n,o,p,q⟩
 .obtain⟨fd,a⟩:=rI a
  obtain⟨o,e,q⟩:=cL a
  exact⟨o,e,(z9 q).trans (aB (fun x=>Data.func (x.getD default)) a.symm)⟩
 .unfold aL
  revert i
  cases (gi K f).body with
  |stmts b=>exact fun Y=>rfl
  |expr e=>exact fun i=>nomatch i
theorem EF{K:Frag}{dv:List Value}(h:KQ K v=some dv): ∀hp:Heap,K.In hp→rY hp v dv:=by
 intro hp X
 induction v using Value.casesOn with
 |none=>exact .inl ⟨rfl,(b8 h).symm⟩
 |ref T=>
  obtain⟨o,e,q⟩:=cL h
  obtain⟨n,q⟩:=B9 q
  exact .inr ⟨T,o,n,rfl,X _ _ e,q⟩
 |_=>exact nn h
noncomputable abbrev KK(P:Params):Frag:=Mine.hd.heap_1 P
structure Good(D:Wd):Prop where
 k:D.K=KK D.w.params
noncomputable def aV(D:Wd)(n:Nat)(name:Str)(c:ej):Prop:= ∃v,nsIn D.K mainGlobals name=some (some v)∧keepIn D.K v=true∧cS D n v c
noncomputable def eb(D:Wd)(n:Nat)(C:Addr)(m:Str)(c:ej):Prop:= ∃f,findIn D.K (.ref C) m=some (some (.ref f))∧isFn D.K (.ref f)=true∧keepIn D.K (.ref f)=true∧
 findIn D.K (.ref C) "__getattribute__"=some (some (.builtin "object.__getattribute__"))∧findIn D.K (.ref C) "__getattr__"=some none∧cS D n (.ref f) c
theorem aV.le{n m:Nat}{c:ej}(h:aV D n x c)(l:n≤m):aV D m x c:=by obtain⟨v,a,b,d⟩:=h;exact⟨v,a,b,d.le l⟩
theorem eb.le{n m:Nat}{C:Addr}{c:ej}(h:eb D n C x c)(l:n≤m):eb D m C x c:=by obtain⟨v,a,b,d,e,g,i⟩:=h;exact⟨v,a,b,d,e,g,i.le l⟩
noncomputable abbrev S(s:String):Str:=Str.ofString s
noncomputable def Ey:List (Str×MV):=[(S "LOOKUP",.int 1),(S "UPDATE",.int 2),(S "DELETE",.int 3),(S "CLOCK",.int 5),(S "PRINT",.int 6),(S "RANDOM",.int 7),(S "PROCESSOR",.int 8),(S "PUSH",.int 87),(S "POP",.int 88),(S "PEEK",.int 89),
 (S "OUTPUT",.int 130),(S "RESERVE",.int 131),(S "SUBMIT",.int 132),(S "DISCARD",.int 133),
 (S "LD",.int 0),(S "LDX",.int 1),(S "ST",.int 2),(S "STX",.int 3),(S "ALU",.int 4),(S "JMP",.int 5),(S "JMP32",.int 6),(S "ALU64",.int 7),(S "BY_REGISTER",.int 8),(S "WIDE",.int 24),(S "CALL",.int 133),(S "EXIT",.int 149),(S "MODE_MEM",.int 96),(S "MODE_ATOMIC",.int 192),(S "FETCH",.int 1),(S "XCHG",.int 225),(S "CMPXCHG",.int 241),
 (S "CLASSES",.str (S "ld   ldx  st   stx  alu  jmp  jmp32alu64")),(S "DEEDS",.str (S "add sub mul div or  and lsh rsh neg mod xor mov arshend ")),(S "JUMPS",.str (S "ja  eq  gt  ge  set ne  sgt sge callexitlt  le  slt sle ")),(S "KNOWN",.int 14),(S "MOST_FRAMES",.int 8),(S "FRAME",.int 10),(S "ALL_SLOTS",.int 18446744073709551615),(S "WRITTEN_BY_CALLS",.int 63)]
noncomputable def JY:List (Addr×List Str):=[(147,[S "code",S "dst",S "src",S "off",S "imm",S "more"]),(462,[S "orders",S "slots",S "by_slot",S "many_slots",S "subs"]),(104,[S "number",S "name",S "kinds",S "gives"])]
noncomputable def Ij(K:Frag)(p:Str×MV):Bool:=((nsIn K mainGlobals p.1).bind fun o=>o.bind fun v=>Kx v p.2).isSome
noncomputable def Bp(K:Frag)(C:Addr)(a:Str):Bool:=findIn K (.ref C) "__getattribute__"==some (some (.builtin "object.__getattribute__"))&&(hasDictIn K C&&(K3 (findIn K (.ref C) a) (noGet K)&&
 (findIn K (.ref C) "__setattr__"==some (some (.builtin "object.__setattr__"))&&(plainOver K C&&takerIn K C a==some none))))
noncomputable def bx(fs:List (Str×ej))(ms:List ((Addr×Str)×ej)):Cx where
 sc:=⟨.function,[],false,false,[]⟩
 wf:=3000
 glob:=fun x=>Ey.lookup x
 fn:=fun x=>fs.lookup x
 pA:=fun C x=>ms.lookup (C,x)
 attr:=fun C a=>K3 (JY.lookup C) fun l=>l.contains a
set_option maxRecDepth 100000 in
theorem Ii(P:Params):Ey.all (Ij (KK P))=true:=by kernel_rfl
set_option maxRecDepth 100000 in
theorem Rl(P:Params):(Str.ofString "enumerate"::c9).all (fun x=>nsIn (KK P) mainGlobals x==some none)=true:=by kernel_rfl
set_option maxRecDepth 100000 in
theorem ID(P:Params):JY.all (fun p=>p.2.all (Bp (KK P) p.1))=true:=by kernel_rfl
theorem kW{α β:Type}[BEq α][LawfulBEq α]: ∀{l:List (α×β)}{x:α}{b:β},l.lookup x=some b→(x,b)∈l:=by
 intro l_
 induction l_ with
 |nil=>intro _ _ h;exact nn h
 |cons p_ r ih=>
  obtain⟨y,d⟩:=p_
  intro x c h
  rw[de]at h
  by_cases q:(x==y)=true
  .rw[q]at h;obtain rfl:=b8 h;exact ae (eq_of_beq q) (.head _)
  .rw[Bool.not_eq_true]at q;rw[q]at h;exact .tail _ (ih h)
theorem dV(hD:Good D){fs:List (Str×ej)}{ms:List ((Addr×Str)×ej)}(hf: ∀p∈fs,aV D n p.1 p.2)(hm: ∀p∈ms,eb D n p.1.1 p.1.2 p.2):eE D n (bx fs ms):=by
 refine⟨fun x t e=>?_,fun x hx=>?_,fun x c e=>hf _ (kW e),fun C m c e=>hm _ (kW e),fun C a e=>?_⟩
 .have h:=dg.mp (Ii D.w.params) _ (kW e)
  refine ae hD.k ?_
  obtain⟨u,h⟩:=rI h
  obtain⟨o,e1,h⟩:=cL h
  obtain⟨v,e2,h⟩:=cL h
  exact⟨v,e1.trans (aB some e2),A7 h⟩
 .have h:=dg.mp (Rl D.w.params) x hx
  exact ae hD.k (eq_of_beq h)
 .refine(?_:r9 D.K C a)
  obtain⟨l,hl,e⟩:=OQ e
  have h:=dg.mp (dg.mp (ID D.w.params) _ (kW hl)) a (List.elem_iff.mp e)
  refine ae hD.k ?_
  unfold Bp at h
  simp only[aU]at h
  obtain⟨h1,h2,h3,h4,h5,h6⟩:=h
  exact⟨eq_of_beq h1,h2,OQ h3,eq_of_beq h4,h5,eq_of_beq h6⟩
theorem cS.sub{c c':ej}(h:cS D n v c)(hm:c'.aY=c.aY)(ho:c'.own=c.own)(hr: ∀ts K r,c'.run ts K=some r→c.run ts K=some r):cS D n v c':=by
 obtain⟨m,o,r⟩:=c
 obtain⟨m',o',r'⟩:=c'
 obtain rfl:m'=m:=hm
 obtain rfl:o'=o:=ho
 exact fun a1 a2 a3 a4 a5 a6 a7=>h a1 a2 a3 a4 a5 (hr _ _ _ a6) a7
theorem eE.Sv(h:eE D n cx)(sc:Scope)(own:Bool):eE D n { cx with sc:=sc,own:=own }:=⟨h.glob,h.bi,h.fn,h.pA,h.attr⟩
noncomputable def bZ(P:Params)(m:Nat)(cx:Cx)(f:Addr)(aY:List c8)(own:Bool)(dflt:List MV):ej:=
 Ky m { cx with sc:=dF (KK P) f,own:=own } (rB (KK P) f) (aL (KK P) f) aY dflt
noncomputable def r5(P:Params)(m:Nat)(cx:Cx)(C f:Addr)(self:Str)(ps:List Str)(dflt:List MV):ej:=
 DR m { cx with sc:=dF (KK P) f } C self ps (aL (KK P) f) dflt
noncomputable def Vd(dv:List Value)(dflt:List MV):Option Unit:=match dflt with
 | []=>a0 dv (some ())
 |t::r=>a0 r <| aC dv fun v w=>a0 w <| Kx v t
noncomputable def kM(K:Frag)(v:Value)(dflt:List MV):Bool:=((KQ K v).bind fun dv=>Vd dv dflt).isSome
theorem uX{K:Frag}{dflt:List MV}(h:kM K v dflt=true): ∃dv,KQ K v=some dv∧(∀F,D.dm F dflt dv)∧dflt.length≤1:=by
 obtain⟨u,h⟩:=rI h
 obtain⟨dv,e,h⟩:=cL h
 refine⟨dv,e,?_⟩
 clear e
 induction dflt using aO with
 |nil=>obtain⟨rfl,_⟩:=cm h;exact⟨fun F=> .nil,Nat.zero_le _⟩
 |cons t r=>
  obtain⟨rfl,h⟩:=cm h
  obtain⟨v,w,rfl,h⟩:=bL h
  obtain⟨rfl,h⟩:=cm h
  exact⟨fun F=> .cons (A7 h F) .nil,bn _⟩
theorem gK(hD:Good D){n m:Nat}{f:Addr}{aY:List c8}{own:Bool}{dflt:List MV}(hn:20≤n)(tc:eE D n cx)(hc:lP (KK D.w.params) f=true)(pG:kM (KK D.w.params) (gi (KK D.w.params) f).defaults dflt=true)
 (NB:mD aY=true):cS D (n+1) (.ref f) (bZ D.w.params m cx f aY own dflt):=by
 obtain⟨⟨o,ho,hd⟩,sh,cl,cd,kd,ok,free⟩:=wc hc
 obtain⟨dv,pG,GX,pK⟩:=uX (D:=D) pG
 have hk:=hD.k
 have SP:=tc.Sv (dF (KK D.w.params) f) own
 refine @H3 D n { cx with sc:=dF (KK D.w.params) f,own:=own } m _ _ aY dflt hn SP ok free f o _ dv (by refine ae hk ?_;exact ho) hd sh cl (by refine ae hk ?_;exact cd) (by refine ae hk ?_;exact kd) (by refine ae hk ?_;exact EF pG) GX NB pK
theorem fk(hD:Good D){name:Str}{f:Addr}{c c':ej}(h:cS D n (.ref f) c)(jI:(nsIn (KK D.w.params) mainGlobals name==some (some (.ref f))&&keepIn (KK D.w.params) (.ref f))=true)
 (hm:c'.aY=c.aY) (ho:c'.own=c.own) (hr: ∀ts K r,c'.run ts K=some r→c.run ts K=some r):aV D n name c':=by
 rw[aU]at jI
 exact⟨_,by refine ae hD.k ?_;exact eq_of_beq jI.1,by refine ae hD.k ?_;exact jI.2,h.sub hm ho hr⟩
noncomputable def rx(K:Frag)(C:Addr)(m:Str)(f:Addr):Bool:=findIn K (.ref C) m==some (some (.ref f))&&(isFn K (.ref f)&&(keepIn K (.ref f)&&(findIn K (.ref C) "__getattribute__"==some (some (.builtin "object.__getattribute__"))&&findIn K (.ref C) "__getattr__"==some none)))
theorem uN(hD:Good D){C:Addr}{name:Str}{f:Addr}{c c':ej}(h:cS D n (.ref f) c)(jI:rx (KK D.w.params) C name f=true)
 (hm:c'.aY=c.aY) (ho:c'.own=c.own) (hr: ∀ts K r,c'.run ts K=some r→c.run ts K=some r):eb D n C name c':=by
 unfold rx at jI
 simp only[aU]at jI
 obtain⟨h1,h2,h3,h4,h5⟩:=jI
 refine⟨f,?_,?_,?_,?_,?_,h.sub hm ho hr⟩<;>refine ae hD.k ?_
 .exact eq_of_beq h1
 .exact h2
 .exact h3
 .exact eq_of_beq h4
 .exact eq_of_beq h5
noncomputable def EK(K:Frag)(C f:Addr):Bool:=makesIn K C&&(findIn K (.ref C) "__init__"==some (some (.ref f))&&typeIn K (.ref f)==some (.type "function"))
theorem pZ(hD:Good D){n m:Nat}{C f:Addr}{self:Str}{ps:List Str}{dflt:List MV}(hn:20≤n)(tc:eE D n cx)(hc:lP (KK D.w.params) f=true)(To:EK (KK D.w.params) C f=true)
 (pD:rB (KK D.w.params) f=self::ps) (pG:kM (KK D.w.params) (gi (KK D.w.params) f).defaults dflt=true) (jM:cx.own=false):
 cS D (n+2) (.ref C) (r5 D.w.params m cx C f self ps dflt):=by
 obtain⟨⟨o,ho,hd⟩,sh,cl,cd,kd,ok,free⟩:=wc hc
 obtain⟨dv,pG,GX,pK⟩:=uX (D:=D) pG
 have hk:=hD.k
 unfold EK at To
 simp only[aU]at To
 obtain⟨h1,h2,h3⟩:=To
 rw[pD]at sh
 have SP:=tc.Sv (dF (KK D.w.params) f) cx.own
 refine @Fy D n { cx with sc:=dF (KK D.w.params) f } m C self ps _ dflt hn SP ok free jM f o _ dv (by exact ae hk h1) (by exact ae hk (eq_of_beq h2)) (by exact ae hk (eq_of_beq h3)) (by exact ae hk ho) hd sh cl (by exact ae hk cd) (by exact ae hk kd) (by exact ae hk (EF pG)) GX pK
theorem aV.sub{c c':ej}(h:aV D n x c)(hm:c'.aY=c.aY)(ho:c'.own=c.own)(hr: ∀ts K r,c'.run ts K=some r→c.run ts K=some r):aV D n x c':=by
 obtain⟨v,a,b,d⟩:=h
 exact⟨v,a,b,d.sub hm ho hr⟩
theorem bz: ∀p∈([]:List (Str×ej)),aV D n p.1 p.2:=fun Y h=>nomatch h
theorem cX: ∀p∈([]:List ((Addr×Str)×ej)),eb D n p.1.1 p.1.2 p.2:=fun Y h=>nomatch h
theorem ay{n m:Nat}{c:ej}{l:List (Str×ej)}(h:aV D m x c)(q:m≤n)(r: ∀p∈l,aV D n p.1 p.2): ∀p∈(x,c)::l,aV D n p.1 p.2:=fun p hp=>by
 rcases aA.mp hp with rfl|hp
 .exact h.le q
 .exact r p hp
theorem dM{n m:Nat}{C:Addr}{c:ej}{l:List ((Addr×Str)×ej)}(h:eb D m C x c)(q:m≤n)(r: ∀p∈l,eb D n p.1.1 p.1.2 p.2): ∀p∈((C,x),c)::l,eb D n p.1.1 p.1.2 p.2:=fun p hp=>by
 rcases aA.mp hp with rfl|hp
 .exact h.le q
 .exact r p hp
theorem jk(hD:Good D){name:Str}{f:Addr}{fs:List (Str×ej)}{dflt:List MV}(hn:20≤n)(hf: ∀p∈fs,aV D n p.1 p.2)
 (h:(lP (KK D.w.params) f&&(kM (KK D.w.params) (gi (KK D.w.params) f).defaults dflt&&(nsIn (KK D.w.params) mainGlobals name==some (some (.ref f))&&keepIn (KK D.w.params) (.ref f))))=true):
 aV D (n+1) name (bZ D.w.params 60 (bx fs []) f [] false dflt):=by
 obtain⟨h1,h2⟩:=au.mp h
 obtain⟨h2,h3⟩:=au.mp h2
 exact fk hD (gK hD hn (dV hD hf cX) h1 h2 rfl) h3 rfl rfl fun Y Y Y h=>h
noncomputable def yX(P:Params):ej:=bZ P 60 (bx [] []) 80 [] false []
theorem yT(hD:Good D):aV D 21 (S "bit_count") (yX D.w.params):=
 jk hD (by decide) bz (by kernel_rfl)
noncomputable def yo(P:Params):ej:=r5 P 60 (bx [] []) 104 94 (S "self") [S "number",S "name",S "kinds",S "gives"] []
theorem F9(hD:Good D):aV D 22 (S "Helper") (yo D.w.params):=
 fk hD (pZ hD (by decide) (dV hD bz cX) (by kernel_rfl) (by kernel_rfl) (by kernel_rfl) (by kernel_rfl) rfl) (by kernel_rfl) rfl rfl fun Y Y Y h=>h
noncomputable def nz(P:Params):ej:=bZ P 60 (bx [] []) 115 [] false []
theorem tV(hD:Good D):aV D 21 (S "helper_rows") (nz D.w.params):=
 jk hD (by decide) bz (by kernel_rfl)
noncomputable def qS(P:Params):ej:=bZ P 60 (bx [(S "helper_rows",nz P),(S "Helper",yo P)] []) 122 [] false []
theorem yR(hD:Good D):aV D 23 (S "helper_of") (qS D.w.params):=
 jk hD (by decide) (ay (tV hD) (by decide) (ay (F9 hD) (by decide) bz)) (by kernel_rfl)
noncomputable def iq(P:Params):ej:=r5 P 60 (bx [] []) 147 137 (S "self") [S "code",S "dst",S "src",S "off",S "imm",S "more"] [.int 0]
theorem iX(hD:Good D):aV D 22 (S "Order") (iq D.w.params):=
 fk hD (pZ hD (by decide) (dV hD bz cX) (by kernel_rfl) (by kernel_rfl) (by kernel_rfl) (by kernel_rfl) rfl) (by kernel_rfl) rfl rfl fun Y Y Y h=>h
noncomputable def n6(P:Params):ej:=bZ P 60 (bx [] []) 158 [] false []
theorem Ad(hD:Good D):aV D 21 (S "class_of") (n6 D.w.params):=
 jk hD (by decide) bz (by kernel_rfl)
noncomputable def sy(P:Params):ej:=bZ P 60 (bx [] []) 165 [] false []
theorem x7(hD:Good D):aV D 21 (S "is_alu") (sy D.w.params):=
 jk hD (by decide) bz (by kernel_rfl)
noncomputable def fq(P:Params):ej:=bZ P 60 (bx [] []) 172 [] false []
theorem jb(hD:Good D):aV D 21 (S "is_jumping") (fq D.w.params):=
 jk hD (by decide) bz (by kernel_rfl)
noncomputable def qQ(P:Params):ej:=bZ P 60 (bx [(S "is_alu",sy P),(S "is_jumping",fq P)] []) 179 [] false []
theorem yP(hD:Good D):aV D 22 (S "operation") (qQ D.w.params):=
 jk hD (by decide) (ay (x7 hD) (by decide) (ay (jb hD) (by decide) bz)) (by kernel_rfl)
noncomputable def kb(P:Params):ej:=bZ P 60 (bx [] []) 186 [] false []
theorem ny(hD:Good D):aV D 21 (S "is_register") (kb D.w.params):=
 jk hD (by decide) bz (by kernel_rfl)
noncomputable def n5(P:Params):ej:=bZ P 60 (bx [] []) 193 [] false []
theorem Aa(hD:Good D):aV D 21 (S "width_of") (n5 D.w.params):=
 jk hD (by decide) bz (by kernel_rfl)
noncomputable def CW(P:Params):ej:=bZ P 60 (bx [] []) 200 [] false []
theorem CH(hD:Good D):aV D 21 (S "is_wide") (CW D.w.params):=
 jk hD (by decide) bz (by kernel_rfl)
noncomputable def ji(P:Params):ej:=bZ P 60 (bx [(S "is_jumping",fq P)] []) 207 [] false []
theorem mP(hD:Good D):aV D 22 (S "is_jump") (ji D.w.params):=
 jk hD (by decide) (ay (jb hD) (by decide) bz) (by kernel_rfl)
noncomputable def gy(P:Params):ej:=bZ P 60 (bx [] []) 214 [] false []
theorem mQ(hD:Good D):aV D 21 (S "is_call") (gy D.w.params):=
 jk hD (by decide) bz (by kernel_rfl)
noncomputable def c5(P:Params):ej:=bZ P 60 (bx [] []) 221 [] false []
theorem eC(hD:Good D):aV D 21 (S "is_local_call") (c5 D.w.params):=
 jk hD (by decide) bz (by kernel_rfl)
noncomputable def gx(P:Params):ej:=bZ P 60 (bx [] []) 228 [] false []
theorem kC(hD:Good D):aV D 21 (S "is_exit") (gx D.w.params):=
 jk hD (by decide) bz (by kernel_rfl)
noncomputable def mc(P:Params):ej:=bZ P 60 (bx [(S "is_jumping",fq P),(S "is_jump",ji P),(S "is_call",gy P),(S "is_exit",gx P)] []) 235 [] false []
theorem qM(hD:Good D):aV D 23 (S "is_branch") (mc D.w.params):=
 jk hD (by decide) (ay (jb hD) (by decide) (ay (mP hD) (by decide) (ay (mQ hD) (by decide) (ay (kC hD) (by decide) bz)))) (by kernel_rfl)
noncomputable def kE(P:Params):ej:=bZ P 60 (bx [] []) 242 [] false []
theorem uU(hD:Good D):aV D 21 (S "is_load") (kE D.w.params):=
 jk hD (by decide) bz (by kernel_rfl)
noncomputable def jz(P:Params):ej:=bZ P 60 (bx [] []) 249 [] false []
theorem sQ(hD:Good D):aV D 21 (S "is_store") (jz D.w.params):=
 jk hD (by decide) bz (by kernel_rfl)
noncomputable def gA(P:Params):ej:=bZ P 60 (bx [] []) 256 [] false []
theorem l9(hD:Good D):aV D 21 (S "is_atomic") (gA D.w.params):=
 jk hD (by decide) bz (by kernel_rfl)
noncomputable def Ak(P:Params):ej:=bZ P 60 (bx [(S "is_local_call",c5 P)] []) 263 [] false []
theorem Ac(hD:Good D):aV D 22 (S "distance") (Ak D.w.params):=
 jk hD (by decide) (ay (eC hD) (by decide) bz) (by kernel_rfl)
noncomputable def nC(P:Params):ej:=bZ P 60 (bx [] []) 270 [] false []
theorem tY(hD:Good D):aV D 21 (S "atomic_name") (nC D.w.params):=
 jk hD (by decide) bz (by kernel_rfl)
noncomputable def iE(P:Params):ej:=bZ P 60 (bx [] []) 275 [] false []
theorem jW(hD:Good D):aV D 21 (S "each_once") (iE D.w.params):=
 jk hD (by decide) bz (by kernel_rfl)
noncomputable def sY(P:Params):ej:=bZ P 60 (bx [(S "operation",qQ P),(S "is_register",kb P),(S "each_once",iE P)] []) 282 [] false []
theorem Ae(hD:Good D):aV D 23 (S "alu_uses") (sY D.w.params):=
 jk hD (by decide) (ay (yP hD) (by decide) (ay (ny hD) (by decide) (ay (jW hD) (by decide) bz))) (by kernel_rfl)
noncomputable def qR(P:Params):ej:=bZ P 60 (bx [(S "is_call",gy P),(S "is_exit",gx P),(S "is_jump",ji P),(S "is_register",kb P),(S "each_once",iE P)] []) 289 [] false []
theorem yQ(hD:Good D):aV D 23 (S "jump_uses") (qR D.w.params):=
 jk hD (by decide) (ay (mQ hD) (by decide) (ay (kC hD) (by decide) (ay (mP hD) (by decide) (ay (ny hD) (by decide) (ay (jW hD) (by decide) bz))))) (by kernel_rfl)
noncomputable def nB(P:Params):ej:=bZ P 60 (bx [(S "atomic_name",nC P),(S "each_once",iE P)] []) 296 [] false []
theorem tX(hD:Good D):aV D 22 (S "atomic_uses") (nB D.w.params):=
 jk hD (by decide) (ay (tY hD) (by decide) (ay (jW hD) (by decide) bz)) (by kernel_rfl)
noncomputable def r8(P:Params):ej:=bZ P 60 (bx [(S "is_alu",sy P),(S "is_jumping",fq P),(S "is_atomic",gA P),(S "alu_uses",sY P),(S "jump_uses",qR P),(S "atomic_uses",nB P),(S "each_once",iE P)] []) 303 [] false []
theorem EB(hD:Good D):aV D 24 (S "uses") (r8 D.w.params):=
 jk hD (by decide) (ay (x7 hD) (by decide) (ay (jb hD) (by decide) (ay (l9 hD) (by decide) (ay (Ae hD) (by decide) (ay (yQ hD) (by decide) (ay (tX hD) (by decide) (ay (jW hD) (by decide) bz))))))) (by kernel_rfl)
noncomputable def mU(P:Params):ej:=bZ P 60 (bx [] []) 310 [] false []
theorem qd(hD:Good D):aV D 21 (S "spot_of") (mU D.w.params):=
 jk hD (by decide) bz (by kernel_rfl)
noncomputable def qT(P:Params):ej:=bZ P 60 (bx [(S "spot_of",mU P)] []) 317 [] false []
theorem yS(hD:Good D):aV D 22 (S "deed_code") (qT D.w.params):=
 jk hD (by decide) (ay (qd hD) (by decide) bz) (by kernel_rfl)
noncomputable def nA(P:Params):ej:=bZ P 60 (bx [(S "spot_of",mU P)] []) 324 [] false []
theorem tW(hD:Good D):aV D 22 (S "branch_code") (nA D.w.params):=
 jk hD (by decide) (ay (qd hD) (by decide) bz) (by kernel_rfl)
noncomputable def gQ(P:Params):ej:=bZ P 60 (bx [] []) 331 [] false []
theorem ja(hD:Good D):aV D 21 (S "width_code") (gQ D.w.params):=
 jk hD (by decide) bz (by kernel_rfl)
noncomputable def u5(P:Params):ej:=bZ P 60 (bx [(S "Order",iq P),(S "deed_code",qT P)] []) 339 [] false [.int 64]
theorem CI(hD:Good D):aV D 23 (S "alu_reg") (u5 D.w.params):=
 jk hD (by decide) (ay (iX hD) (by decide) (ay (yS hD) (by decide) bz)) (by kernel_rfl)
noncomputable def pk(P:Params):ej:=bZ P 60 (bx [(S "Order",iq P),(S "branch_code",nA P)] []) 347 [] false [.int 64]
theorem wA(hD:Good D):aV D 23 (S "branch_imm") (pk D.w.params):=
 jk hD (by decide) (ay (iX hD) (by decide) (ay (tW hD) (by decide) bz)) (by kernel_rfl)
noncomputable def EO(P:Params):ej:=bZ P 60 (bx [(S "Order",iq P),(S "width_code",gQ P)] []) 354 [] false []
theorem Mf(hD:Good D):aV D 23 (S "load") (EO D.w.params):=
 jk hD (by decide) (ay (iX hD) (by decide) (ay (ja hD) (by decide) bz)) (by kernel_rfl)
noncomputable def Bl(P:Params):ej:=bZ P 60 (bx [(S "Order",iq P),(S "width_code",gQ P)] []) 361 [] false []
theorem Io(hD:Good D):aV D 23 (S "store") (Bl D.w.params):=
 jk hD (by decide) (ay (iX hD) (by decide) (ay (ja hD) (by decide) bz)) (by kernel_rfl)
noncomputable def qP(P:Params):ej:=bZ P 60 (bx [(S "Order",iq P),(S "width_code",gQ P)] []) 368 [] false []
theorem yO(hD:Good D):aV D 23 (S "store_imm") (qP D.w.params):=
 jk hD (by decide) (ay (iX hD) (by decide) (ay (ja hD) (by decide) bz)) (by kernel_rfl)
noncomputable def nE(P:Params):ej:=bZ P 60 (bx [(S "spot_of",mU P)] []) 375 [] false []
theorem tZ(hD:Good D):aV D 22 (S "atomic_code") (nE D.w.params):=
 jk hD (by decide) (ay (qd hD) (by decide) bz) (by kernel_rfl)
noncomputable def yn(P:Params):ej:=bZ P 60 (bx [(S "Order",iq P),(S "atomic_code",nE P),(S "width_code",gQ P)] []) 382 [] false []
theorem F8(hD:Good D):aV D 23 (S "atomic") (yn D.w.params):=
 jk hD (by decide) (ay (iX hD) (by decide) (ay (tZ hD) (by decide) (ay (ja hD) (by decide) bz))) (by kernel_rfl)
noncomputable def EQ(P:Params):ej:=bZ P 60 (bx [(S "Order",iq P)] []) 389 [] false []
theorem Mg(hD:Good D):aV D 23 (S "call") (EQ D.w.params):=
 jk hD (by decide) (ay (iX hD) (by decide) bz) (by kernel_rfl)
noncomputable def k8(P:Params):ej:=bZ P 60 (bx [(S "Order",iq P)] []) 396 [] false []
theorem wy(hD:Good D):aV D 23 (S "local_call") (k8 D.w.params):=
 jk hD (by decide) (ay (iX hD) (by decide) bz) (by kernel_rfl)
noncomputable def Bm(P:Params):ej:=bZ P 60 (bx [(S "Order",iq P)] []) 403 [] false []
theorem Iq(hD:Good D):aV D 23 (S "leave") (Bm D.w.params):=
 jk hD (by decide) (ay (iX hD) (by decide) bz) (by kernel_rfl)
noncomputable def Aj(P:Params):ej:=bZ P 60 (bx [(S "is_jump",ji P),(S "is_branch",mc P),(S "is_local_call",c5 P)] []) 473 [] false []
theorem Ab(hD:Good D):aV D 24 (S "has_goal") (Aj D.w.params):=
 jk hD (by decide) (ay (mP hD) (by decide) (ay (qM hD) (by decide) (ay (eC hD) (by decide) bz))) (by kernel_rfl)
noncomputable def kD(P:Params):ej:=bZ P 60 (bx [] []) 550 [] false []
theorem mO(hD:Good D):aV D 21 (S "mask_of") (kD D.w.params):=
 jk hD (by decide) bz (by kernel_rfl)
noncomputable def k9(P:Params):ej:=bZ P 60 (bx [(S "is_local_call",c5 P),(S "helper_of",qS P),(S "mask_of",kD P)] []) 562 [] false []
theorem wz(hD:Good D):aV D 24 (S "call_reads") (k9 D.w.params):=
 jk hD (by decide) (ay (eC hD) (by decide) (ay (yR hD) (by decide) (ay (mO hD) (by decide) bz))) (by kernel_rfl)
noncomputable def qj(P:Params):ej:=bZ P 60 (bx [(S "is_exit",gx P),(S "uses",r8 P),(S "is_call",gy P),(S "is_local_call",c5 P),(S "mask_of",kD P),(S "call_reads",k9 P)] []) 569 [] false []
theorem qi(hD:Good D):aV D 25 (S "register_masks") (qj D.w.params):=
 jk hD (by decide) (ay (kC hD) (by decide) (ay (EB hD) (by decide) (ay (mQ hD) (by decide) (ay (eC hD) (by decide) (ay (mO hD) (by decide) (ay (wz hD) (by decide) bz)))))) (by kernel_rfl)
noncomputable def iN(P:Params):ej:=bZ P 60 (bx [(S "mask_of",kD P)] []) 588 [] false []
theorem rb(hD:Good D):aV D 22 (S "slots_touched") (iN D.w.params):=
 jk hD (by decide) (ay (mO hD) (by decide) bz) (by kernel_rfl)
noncomputable def iO(P:Params):ej:=bZ P 60 (bx [] []) 595 [] false []
theorem rc(hD:Good D):aV D 21 (S "is_whole_slot") (iO D.w.params):=
 jk hD (by decide) bz (by kernel_rfl)
noncomputable def wE(P:Params):ej:=bZ P 60 (bx [(S "is_load",kE P),(S "is_atomic",gA P),(S "is_store",jz P),(S "is_whole_slot",iO P),(S "slots_touched",iN P),(S "width_of",n5 P)] []) 602 [] false []
theorem ww(hD:Good D):aV D 23 (S "slot_masks") (wE D.w.params):=
 jk hD (by decide) (ay (uU hD) (by decide) (ay (l9 hD) (by decide) (ay (sQ hD) (by decide) (ay (rc hD) (by decide) (ay (rb hD) (by decide) (ay (Aa hD) (by decide) bz)))))) (by kernel_rfl)
noncomputable def ue(P:Params):ej:=bZ P 60 (bx [(S "is_load",kE P),(S "is_call",gy P),(S "is_local_call",c5 P),(S "is_exit",gx P),(S "is_store",jz P),(S "is_atomic",gA P),(S "uses",r8 P),(S "class_of",n6 P)] []) 609 [] false []
theorem tU(hD:Good D):aV D 25 (S "leaks_frame") (ue D.w.params):=
 jk hD (by decide) (ay (uU hD) (by decide) (ay (mQ hD) (by decide) (ay (eC hD) (by decide) (ay (kC hD) (by decide) (ay (sQ hD) (by decide) (ay (l9 hD) (by decide) (ay (EB hD) (by decide) (ay (Ad hD) (by decide) bz)))))))) (by kernel_rfl)
noncomputable def cB(P:Params)(m:Nat)(cx:Cx)(f:Addr)(aY:List c8)(own:Bool)(ts:List MV):aH:=
 bF m { cx with sc:=dF (KK P) f,own:=own } (aL (KK P) f) (d6 fg (rB (KK P) f) aY ts []) (fun st=>bif !own then some (.none,ci st)else none)
noncomputable def iQ(P:Params)(m:Nat)(cx:Cx)(f:Addr)(own:Bool)(n:Nat)(st:St):aH:=
 bF (m-n) { cx with sc:=dF (KK P) f,own:=own } ((aL (KK P) f).drop n) st (fun st=>bif !own then some (.none,ci st)else none)
noncomputable def fY(P:Params)(f:Addr)(aY:List c8)(dflt:List MV)(ts:List MV):Bool:=(decide (ts.length≤(rB (KK P) f).length)&&decide ((rB (KK P) f).length≤ts.length+dflt.length))&&decide (aY.length≤ts.length)
theorem gL{P:Params}{f:Addr}{aY:List c8}{own:Bool}{dflt ts:List MV}{K:MV→Option MV→aH}{r:MV}{o:Option MV}{Sw:List MV}(Yr:ts++dflt=Sw)(hl:fY P f aY dflt ts=true)(h:cB P m cx f aY own Sw=some (r,o))(ho:(o.isSome==aY.any j5)=true):
 (bZ P m cx f aY own dflt).run ts K=K r o:=by
 subst Yr
 delta fY at hl
 delta cB at h
 refine ae (P:=fun b=>(bif b then(bF m _ _ _ _).bind _ else none)=_) hl ?_
 refine(aB (Option.bind · _) h).trans ?_
 refine(?_:(bif o.isSome==aY.any j5 then K r o else none)=_)
 exact ae ho rfl
noncomputable abbrev pJ(xs:List MV)(a b:Int):MV:= .list [.list xs,.int a,.int b]
noncomputable abbrev Ss(xs:List MV)(a b many:Int)(cell:MV):St:=[(.v (S "pen"),.cK (pJ xs (a+1) b)),(.v (S "many"),.aw (.int many)),(.v (S "spot"),.aw (.int a)),(.v (S "cell"),.aw cell)]
theorem CO(P:Params)(c:Int)(r:List Int)(a b many:Int):cB P 60 (bx [] []) 633 [.lend] false [pJ ((c::r).map .int) a b,.int many]=
 (bif decide (b>0)then(bif gI many then(bif gI many then some (.int (b.fmod many),some (pJ ((c::r).map .int) a (b.fdiv many)))else none)else none)
  else(bif decide ((0:Int)≤1)&&aQ ((c::r).map MV.int).length then(bif gI ((((c::r).map MV.int).length:Nat):Int)then(bif pC (a.fmod ((((c::r).map MV.int).length:Nat):Int)) ((c::r).map MV.int).length then(match((c::r).map MV.int)[(a.fmod ((((c::r).map MV.int).length:Nat):Int)).toNat]? with
   |some t=>iQ P 60 (bx [] []) 633 false 5 (Ss ((c::r).map .int) a b many t)
   |none=>none)else none)else none)else none)):=by kernel_rfl
noncomputable def G7(xs:List MV)(a b many cell:Int):aH:=
 bif qx (cell.fmod 2147483587+70289*a+7193) 5 then
  bif iI (((cell.fmod 2147483587+70289*a+7193) ^ Int.toNat 5).fmod 2147483629)||iI (2*a+9161)then
   bif iI (70289*a)||iI a then
    bif qx (((cell.fmod 2147483587+70289*a+7193) ^ Int.toNat 5).fmod 2147483629*(2*a+9161)+70289*a*a+107) 3 then
     bif gI many then
      some (.int ((((((((cell.fmod 2147483587+70289*a+7193) ^ Int.toNat 5).fmod 2147483629*(2*a+9161)+70289*a*a+107) ^ Int.toNat 3).fmod 2147483579).fdiv 32).fmod many)),some (pJ xs (a+1) b))
     else none
    else none
   else none
  else none
 else none
theorem uW(P:Params)(xs:List MV)(a b many cell:Int):iQ P 60 (bx [] []) 633 false 5 (Ss xs a b many (.int cell))=
 (bif decide (a<(xs.length:Int))then
   (bif decide ((cell.natAbs:Int)≥10 ^ Int.toNat 18)then
     (bif gI many then(bif gI many then
       some (.int ((2*((cell.natAbs:Int)-10 ^ Int.toNat 18)+bif decide (cell<0)then 1 else 0).fmod many),some (pJ xs (a+1) ((2*((cell.natAbs:Int)-10 ^ Int.toNat 18)+bif decide (cell<0)then 1 else 0).fdiv many)))
     else none)else none)
   else G7 xs a b many cell)
 else G7 xs a b many cell):=by kernel_rfl
theorem Gf(P:Params)(a b many:Int):cB P 60 (bx [] []) 633 [.lend] false [pJ [] a b,.int many]=
 (bif decide (b>0)then(bif gI many then(bif gI many then some (.int (b.fmod many),some (pJ [] a (b.fdiv many)))else none)else none)
  else iQ P 60 (bx [] []) 633 false 5 (Ss [] a b many (.int (70289*a+7193+([]:List Int).sum.fmod 1000003)))):=by
 rw[uW]
 kernel_rfl
inductive fb(n:Nat)(p:MV):Prop where
 |mk (is:List Int) (a:Int) (b:Int) (h0:p=pJ (is.map .int) a b) (h1:is.length≤40) (h2:0≤a) (h3:a≤(n:Int)) (h4:0≤b)
theorem fb.le{n m:Nat}{p:MV}(h:fb n p)(l:n≤m):fb m p:=by obtain⟨is,a,b,h1,h2,h3,h4,h5⟩:=h;exact⟨is,a,b,h1,h2,h3,Int.le_trans h4 (Int.ofNat_le.mpr l),h5⟩
theorem mH{a b:Int}(hb:0<b):0≤a.fmod b∧a.fmod b<b:=⟨Int.fmod_nonneg_of_pos a hb,Int.fmod_lt_of_pos a hb⟩
theorem sx{a b:Int}(ha:0≤a)(hb:0<b):0≤a.fdiv b:=Int.fdiv_nonneg ha (Int.le_of_lt hb)
theorem LU{a b many cell:Int}(hl:is.length≤40)(ha:0≤a)(GJ:a≤n)(hb:0≤b)(hn:n≤1000000)(hm:0<many)(hM:many<1000000):
 ∃d p,G7 (is.map .int) a b many cell=some (.int d,some p)∧0≤d∧d<many∧fb (n+1) p:=by
 obtain⟨c1,c2⟩:=mH (a:=cell) (b:=2147483587) (by trivial)
 have Tq:a≤1000000:=Int.le_trans GJ (Int.ofNat_le.mpr hn)
 have am:70289*a≤70289*1000000:=Int.mul_le_mul_of_nonneg_left Tq (by decide)
 have a0:0≤70289*a:=Int.mul_nonneg (by decide) ha
 have a2:0≤2*a+9161:=Int.add_nonneg (Int.mul_nonneg (by decide) ha) (by decide)
 have x1:qx (cell.fmod 2147483587+70289*a+7193) 5=true:=by
  delta qx;simp only[aU,a9]
  exact⟨⟨Int.add_nonneg (Int.add_nonneg c1 a0) (by decide),Int.lt_of_le_of_lt (Int.add_le_add_right (Int.add_le_add (Int.le_of_lt c2) am) 7193) (by decide)⟩,by decide,by decide⟩
 obtain⟨e1,e2⟩:=mH (a:=(cell.fmod 2147483587+70289*a+7193) ^ Int.toNat 5) (b:=2147483629) (by trivial)
 delta G7
 refine ae x1 (ae (ao ..) ?_)
 generalize ((cell.fmod 2147483587+70289*a+7193) ^ Int.toNat 5).fmod 2147483629=y at*
 have x2:iI y=true:=SI e1 (Int.lt_trans e2 (by decide))
 have x3:iI (70289*a)=true:=SI a0 (Int.lt_of_le_of_lt am (by decide))
 have b1:0≤y*(2*a+9161):=Int.mul_nonneg e1 a2
 have b2:y*(2*a+9161)≤2147483629*(2*1000000+9161):=Int.mul_le_mul (by exact Int.le_of_lt ‹_›) (Int.add_le_add_right (Int.mul_le_mul_of_nonneg_left Tq (by decide)) 9161) a2 (by exact Int.natCast_nonneg _)
 have b3:0≤70289*a*a:=Int.mul_nonneg a0 ha
 have b4:70289*a*a≤70289*1000000*1000000:=Int.mul_le_mul am Tq ha (by exact Int.natCast_nonneg _)
 have x4:qx (y*(2*a+9161)+70289*a*a+107) 3=true:=by
  delta qx;simp only[aU,a9]
  refine⟨⟨Int.add_nonneg (Int.add_nonneg b1 b3) (by decide),?_⟩,by trivial⟩
  exact Int.lt_of_le_of_lt (Int.add_le_add_right (Int.add_le_add b2 b4) 107) (by trivial)
 have x5:gI many=true:=by delta gI;exact RB ‹_› (Int.lt_of_lt_of_le ‹_› (by decide))
 refine ae x2 (ae x3 (ae x4 (ae x5 ?_)))
 obtain⟨f1,f2⟩:=mH (a:=((((y*(2*a+9161)+70289*a*a+107) ^ Int.toNat 3).fmod 2147483579).fdiv 32)) hm
 exact⟨_,_,rfl,f1,f2,is,a+1,b,rfl,hl,Int.add_nonneg ha (by decide),Int.add_le_add_right GJ 1,hb⟩
theorem A1{P:Params}{a b many cell:Int}(hl:is.length≤40)(ha:0≤a)(GJ:a≤n)(hb:0≤b)(hn:n≤1000000)(hm:0<many)(hM:many<1000000):
 ∃d p,iQ P 60 (bx [] []) 633 false 5 (Ss (is.map .int) a b many (.int cell))=some (.int d,some p)∧0≤d∧d<many∧fb (n+1) p:=by
 refine ae (uW ..) ?_
 have mk:=LU (cell:=cell) hl ha GJ hb hn hm hM
 have x5:gI many=true:=by delta gI;exact RB ‹_› (Int.lt_of_lt_of_le ‹_› (by decide))
 induction decide (a<((is.map MV.int).length:Int))using ag with
 |false=>exact mk
 |true=>
  refine ae (ao ..) ?_
  induction q:decide ((cell.natAbs:Int)≥10 ^ Int.toNat 18)using ag with
  |false=>exact mk
  |true=>
   refine ae x5 ?_
   have g:0≤2*((cell.natAbs:Int)-10 ^ Int.toNat 18)+bif decide (cell<0)then 1 else 0:=by
    cases decide (cell<0)<;>simp only[ao,bH]<;>lia
   obtain⟨f1,f2⟩:=mH (a:=2*((cell.natAbs:Int)-10 ^ Int.toNat 18)+bif decide (cell<0)then 1 else 0) hm
   exact⟨_,_,rfl,f1,f2,is,a+1,_,rfl,hl,Int.add_nonneg ha (by decide),Int.add_le_add_right GJ 1,sx g hm⟩
theorem Ix{P:Params}{p:MV}{many:Int}(h:fb n p)(hn:n≤1000000)(hm:0<many)(hM:many<1000000):
 ∃d p',cB P 60 (bx [] []) 633 [.lend] false [p,.int many]=some (.int d,some p')∧0≤d∧d<many∧fb (n+1) p':=by
 obtain⟨is,a,b,rfl,hl,ha,GJ,hb⟩:=h
 have x5:gI many=true:=by delta gI;exact RB ‹_› (Int.lt_of_lt_of_le ‹_› (by decide))
 obtain⟨f1,f2⟩:=mH (a:=b) hm
 induction is using aO with
 |nil=>
  refine ae (Gf ..) ?_
  induction decide (b>0)using ag with
  |true=>
   refine ae x5 ?_;simp only[ao]
   exact⟨_,_,rfl,f1,f2,[],a,_,rfl,hl,ha,Int.le_trans GJ (Int.ofNat_le.mpr (Nat.le_succ n)),sx hb hm⟩
  |false=>exact A1 (is:=[]) hl ha GJ hb hn hm hM
 |cons c r=>
  refine ae (CO ..) ?_
  induction decide (b>0)using ag with
  |true=>
   refine ae x5 ?_;simp only[ao]
   exact⟨_,_,rfl,f1,f2,c::r,a,_,rfl,hl,ha,Int.le_trans GJ (Int.ofNat_le.mpr (Nat.le_succ n)),sx hb hm⟩
  |false=>
   have gh:((c::r).map MV.int).length=(c::r).length:=ai ..
   have l0:0<(c::r).length:=Nat.succ_pos _
   refine ae (bH ..) (ae gh ?_)
   generalize hL:(c::r).length=L at*
   have y1:(decide ((0:Int)≤1)&&aQ L)=true:=by delta aQ;simp;exact af ‹_› (aa rfl)
   have y2:gI (L:Int)=true:=RB (c7.mpr l0) (c7.mpr (aX hl (by decide)))
   obtain⟨g1,g2⟩:=mH (a:=a) (b:=(L:Int)) (by exact c7.mpr ‹_›)
   have y3:pC (a.fmod L) L=true:=by delta pC;exact SK (af ‹_› (by decide)) ‹_› ‹_›
   refine ae y1 (ae y2 (ae y3 ?_))
   have hi:(a.fmod L).toNat<(c::r).length:=by exact ae hL (RC ‹_› ‹_›)
   refine ae (bA) (ae (aq hi) ?_)
   exact A1 (by exact ae hL hl) ha GJ hb hn hm hM
noncomputable abbrev rA:=MV→Int→(Int→MV→aH)→aH
noncomputable def lj(P:Params):rA:=fun p m k=>MU (cB P 60 (bx [] []) 633 [.lend] false [p,.int m]) fun r t=>dI r fun d=>k d t
theorem yg{P:Params}{p:MV}{m:Int}{k:Int→MV→aH}{o:MV×Option MV}(h:lj P p m k=some o): ∃d t,cB P 60 (bx [] []) 633 [.lend] false [p,.int m]=some (.int d,some t)∧k d t=some o∧ ∀k',lj P p m k'=k' d t:=by
 unfold lj at h ⊢
 obtain⟨r,t,e,g⟩:=rl h;clear h
 obtain⟨d,rfl,h⟩:=dE g;clear g
 exact⟨d,t,e,h,fun k'=>by exact ae e rfl⟩
theorem hY{P:Params}{p:MV}{many:Int}(h:fb n p)(hn:n≤1000000)(hm:0<many)(hM:many<1000000): ∃d t,0≤d∧d<many∧fb (n+1) t∧ ∀k,lj P p many k=k d t:=by
 obtain⟨d,t,e,h1,h2,h3⟩:=Ix (P:=P) h hn hm hM
 exact⟨d,t,h1,h2,h3,fun k=>by unfold lj;exact ae e rfl⟩
noncomputable def G5:List MV→Int→(MV→aH)→aH
 | [],_,_=>none
 |u::r,d,k=>bif d==0 then k u else G5 r (d-1) k
theorem Ca: ∀{ts:List MV}{d:Int}{k:MV→aH}{o:MV×Option MV},ts.length≤1000→G5 ts d k=some o→ ∃u,pC d ts.length=true∧ts[d.toNat]? =some u∧k u=some o:=by
 intro l_
 induction l_ with
 |nil=>intro _ _ _ _ h;exact nn h
 |cons u r ih=>
  intro d k o hz h
  rw[bw]at hz
  unfold G5 at h
  induction q:d==0 using ag with
  |true=>
   rw[q]at h
   have:=eq_of_beq q;clear q;subst this
   exact⟨u,SK (af hz (by decide)) (Int.le_refl 0) (c7.mpr (Nat.succ_pos _)),rfl,h⟩
  |false=>
   rw[q,bH]at h
   obtain⟨v,h1,h2,h3⟩:=ih (by exact ca ‹_›) h
   obtain⟨q1,q2⟩:=au.mp h1
   obtain⟨m,e⟩:=Int.eq_ofNat_of_zero_le (aj q1)
   have q3:=aj (au.mp q2).1
   rw[e]at h2 q3
   clear q1 q2 h1
   obtain rfl:d=((m+1:Nat):Int):=Int.sub_eq_iff_eq_add.mp e
   exact⟨v,SK (af hz (by decide)) (Int.natCast_nonneg _) (c7.mpr (Nat.succ_lt_succ (c7.mp q3))),h2,h3⟩
noncomputable def kP(dr:rA):ej:=⟨[.lend],false,fun ts K=>aC ts fun p ts=>aC ts fun m ts=>a0 ts <| dI m fun m=>dr p m fun d t=>K (.int d) (some t)⟩
noncomputable def zv(dr:rA):ej:=⟨[.lend],false,fun ts K=>aC ts fun p ts=>aC ts fun u ts=>a0 ts <| dL u fun us=>bif decide (us.length≤1000)then dr p (us.length:Nat) fun d t=>G5 us d fun u=>K u (some t)else none⟩
noncomputable def MG(P:Params):ej:=bZ P 60 (bx [] []) 633 [.lend] false []
theorem Ge{P:Params}{K:MV→Option MV→aH}{o:MV×Option MV}(h:(kP (lj P)).run ts K=some o):(MG P).run ts K=some o:=by
 obtain⟨p,ts,rfl,g⟩:=bL h;clear h
 obtain⟨m,ts,rfl,h⟩:=bL g;clear g
 obtain⟨rfl,g⟩:=cm h;clear h
 obtain⟨m,rfl,h⟩:=dE g;clear g
 .obtain⟨d,t,e,h1,_⟩:=yg h
  exact(gL (dflt:=[]) rfl (by kernel_rfl) e rfl).trans h1
theorem wd(hD:Good D):aV D 21 (S "_law_draw") (kP (lj D.w.params)):=by
 have h:cS D 21 (.ref 633) (bZ D.w.params 60 (bx [] []) 633 [.lend] false []):=by
  exact gK hD (by decide) (dV hD bz cX) (by kernel_rfl) (by kernel_rfl) rfl
 exact fk hD h (by kernel_rfl) rfl rfl fun Y Y Y h=>Ge h
theorem HL(P:Params)(dr:rA)(p:MV)(us:List MV):cB P 60 (bx [(S "_law_draw",kP dr)] []) 640 [.lend] false [p,.list us]=
 dr p (us.length:Nat) fun d t=>bif pC d us.length then(match us[d.toNat]? with|some u=>some (u,some t)|none=>none)else none:=by kernel_rfl
noncomputable def ME(P:Params):ej:=bZ P 60 (bx [(S "_law_draw",kP (lj P))] []) 640 [.lend] false []
theorem pick_run{P:Params}{K:MV→Option MV→aH}{o:MV×Option MV}(h:(zv (lj P)).run ts K=some o):(ME P).run ts K=some o:=by
 obtain⟨p,ts,rfl,g⟩:=bL h;clear h
 obtain⟨u,ts,rfl,h⟩:=bL g;clear g
 obtain⟨rfl,g⟩:=cm h;clear h
 obtain⟨us,rfl,h⟩:=ju g;clear g
 .obtain⟨hl,h⟩:=aJ h
  obtain⟨d,t,e,h1,h2⟩:=yg h
  obtain⟨u,q1,q2,q3⟩:=Ca (aj hl) h1
  refine(gL (dflt:=[]) rfl (by kernel_rfl) (r:=u) (o:=some t) ?_ rfl).trans q3
  exact(HL ..).trans ((h2 ..).trans (ae q1 (ae q2 rfl)))
theorem Mb(hD:Good D):aV D 22 (S "_law_pick") (zv (lj D.w.params)):=by
 have h:cS D 22 (.ref 640) (bZ D.w.params 60 (bx [(S "_law_draw",kP (lj D.w.params))] []) 640 [.lend] false []):=gK hD (by decide) (dV hD (ay (wd hD) (by decide) bz) cX) (by kernel_rfl) (by kernel_rfl) rfl
 exact fk hD h (by kernel_rfl) rfl rfl fun Y Y Y h=>pick_run h
noncomputable abbrev ff(code tB y0 jH jj:Int):MV:= .inst 147 [S "code",S "dst",S "src",S "off",S "imm",S "more"] [.int code,.int tB,.int y0,.int jH,.int jj,.int 0]
noncomputable abbrev il(is:List Int):MV:= .list (is.map .int)
noncomputable def jY(bV w:Int):List Int:=(List.range w.toNat).map fun i:Nat=>bV+(i:Int)
noncomputable def tF(o r w:MV)(rd wr:List Int)(fF:Bool)(goal:Int):MV:= .tup [o,r,w,il rd,il wr,.bool fF,.int goal]
inductive Rw where
 |br (code one goal:Int)
 |call (num many:Int)
 |loc
 |ld (bV w one:Int)
 |st (bV w one:Int)
 |wN (jj bV one:Int)
 |II (one:Int)
 |Gs
 |GN (bV w:Int)
 |C8 (code one other:Int)
noncomputable def jl(w:Int):Int:=if w=8 then 24 else if w=4 then 0 else 8
noncomputable def Rw.val(at_:Int):Rw→MV
 | .br code one goal=>tF (ff code one 0 (goal-at_-1) 3) (il [one]) (il []) [] [] false goal
 | .call num many=>tF (ff 133 0 0 0 num) (il (jY 1 many)) (il [0,1,2,3,4,5]) [] [] false (-1)
 | .loc=>tF .none (il [1,2,3,4,5]) (il [0,1,2,3,4,5]) [] [] false (-1)
 | .ld bV w one=>tF (ff (97+jl w) one 10 bV 0) (il [10]) (il [one]) (jY bV w) [] false (-1)
 | .st bV w one=>tF (ff (99+jl w) 10 one bV 0) (il [10,one]) (il []) [] (jY bV w) false (-1)
 | .wN jj bV one=>tF (ff 195 10 one bV jj) (il [10,one]) (if jj=65 then il [one]else il []) (jY bV 4) [] false (-1)
 | .II one=>tF (ff 191 one 10 0 0) (il [10]) (il [one]) [] [] true (-1)
 | .Gs=>tF (ff 123 10 10 (-16) 0) (il [10]) (il []) [] (jY (-16) 8) true (-1)
 | .GN bV w=>tF (ff (98+jl w) 10 0 bV 5) (il [10]) (il []) [] (jY bV w) false (-1)
 | .C8 code one other=>tF (ff code one other 0 0) .none (il [one]) [] [] false other
noncomputable def g7(P:Params)(dr:rA):Cx:=bx [(S "_law_draw",kP dr),(S "_law_pick",zv dr),(S "branch_imm",pk P),(S "call",EQ P),(S "load",EO P),(S "store",Bl P),(S "atomic",yn P),(S "alu_reg",u5 P),(S "store_imm",qP P)] []
noncomputable abbrev Dd(p:MV)(at_ count:Int)(main ba:Bool)(g8 one other bV OU:Int):St:=[(.v (S "pen"),.cK p),(.v (S "at"),.aw (.int at_)),(.v (S "count"),.aw (.int count)),(.v (S "is_main"),.aw (.bool main)),(.v (S "is_leaky"),.aw (.bool ba)),(.v (S "way"),.aw (.int g8)),(.v (S "one"),.aw (.int one)),(.v (S "other"),.aw (.int other)),(.v (S "spot"),.aw (.int bV)),(.v (S "width"),.aw (.int OU))]
noncomputable def Kq(e:Int)(a b:aH):aH:=bif e==0 then a else bif e-1==0 then b else none
noncomputable def qm(e:Int)(a b c:aH):aH:=bif e==0 then a else bif e-1==0 then b else bif e-1-1==0 then c else none
noncomputable def wS(e:Int)(a b c d f g h:aH):aH:=bif e==0 then a else bif e-1==0 then b else bif e-1-1==0 then c else bif e-1-1-1==0 then d else bif e-1-1-1-1==0 then f else bif e-1-1-1-1-1==0 then g else bif e-1-1-1-1-1-1==0 then h else none
theorem E7(P:Params)(dr:rA)(p:MV)(at_ count:Int)(main ba:Bool):cB P 60 (g7 P dr) 647 [.lend] false [p,.int at_,.int count,.bool main,.bool ba]=
 dr p 10 fun g8 p=>dr p 10 fun one p=>dr p 10 fun other p=>dr p 4 fun d p=>dr p 3 fun e p=>
  qm e (dr p 3 fun g p=>qm g (iQ P 60 (g7 P dr) 647 false 2 (Dd p at_ count main ba g8 one other (-8*(1+d)+0) 8)) (iQ P 60 (g7 P dr) 647 false 2 (Dd p at_ count main ba g8 one other (-8*(1+d)+0) 4)) (iQ P 60 (g7 P dr) 647 false 2 (Dd p at_ count main ba g8 one other (-8*(1+d)+0) 2)))
   (dr p 3 fun g p=>qm g (iQ P 60 (g7 P dr) 647 false 2 (Dd p at_ count main ba g8 one other (-8*(1+d)+0) 8)) (iQ P 60 (g7 P dr) 647 false 2 (Dd p at_ count main ba g8 one other (-8*(1+d)+0) 4)) (iQ P 60 (g7 P dr) 647 false 2 (Dd p at_ count main ba g8 one other (-8*(1+d)+0) 2)))
   (dr p 3 fun g p=>qm g (iQ P 60 (g7 P dr) 647 false 2 (Dd p at_ count main ba g8 one other (-8*(1+d)+4) 8)) (iQ P 60 (g7 P dr) 647 false 2 (Dd p at_ count main ba g8 one other (-8*(1+d)+4) 4)) (iQ P 60 (g7 P dr) 647 false 2 (Dd p at_ count main ba g8 one other (-8*(1+d)+4) 2))):=by kernel_rfl
noncomputable def t9(dr:rA)(p:MV)(at_ one other:Int):aH:=dr p 2 fun d t=>Kq d (some ((Rw.C8 15 one other).val at_,some t)) (some ((Rw.C8 191 one other).val at_,some t))
noncomputable def t8(dr:rA)(p:MV)(at_:Int)(g8 one other bV w:Int):aH:=bif g8==8 then some ((Rw.GN bV w).val at_,some p)else t9 dr p at_ one other
noncomputable def RF(dr:rA)(p:MV)(at_:Int)(ba:Bool)(g8 one other bV w:Int):aH:=bif g8==8 then(bif ba then some (Rw.Gs.val at_,some p)else t8 dr p at_ g8 one other bV w)else t8 dr p at_ g8 one other bV w
noncomputable def t7(dr:rA)(p:MV)(at_:Int)(ba:Bool)(g8 one other bV w:Int):aH:=bif g8==7 then(bif ba then some ((Rw.II one).val at_,some p)else RF dr p at_ ba g8 one other bV w)else RF dr p at_ ba g8 one other bV w
noncomputable def t4(dr:rA)(p:MV)(at_:Int)(ba:Bool)(g8 one other bV w:Int):aH:=
 bif g8==4 then some ((Rw.ld bV w one).val at_,some p)else bif g8==5 then some ((Rw.st bV w one).val at_,some p)else
 bif g8==6 then(dr p 3 fun d t=>qm d (some ((Rw.wN 0 bV one).val at_,some t)) (some ((Rw.wN 65 bV one).val at_,some t)) (some ((Rw.wN 160 bV one).val at_,some t)))else t7 dr p at_ ba g8 one other bV w
noncomputable def Kv(dr:rA)(p:MV)(at_ count:Int)(main ba:Bool)(g8 one other bV w:Int):aH:=
 bif decide (g8<2)then(dr p (count+1) fun goal t=>dr t 3 fun d t=>qm d (some ((Rw.br 21 one goal).val at_,some t)) (some ((Rw.br 197 one goal).val at_,some t)) (some ((Rw.br 69 one goal).val at_,some t)))else
 bif g8==2 then(dr p 7 fun d t=>wS d (some ((Rw.call 1 2).val at_,some t)) (some ((Rw.call 2 4).val at_,some t)) (some ((Rw.call 7 0).val at_,some t)) (some ((Rw.call 3 2).val at_,some t)) (some ((Rw.call 87 3).val at_,some t)) (some ((Rw.call 130 4).val at_,some t)) (some ((Rw.call 5 0).val at_,some t)))else
 bif g8==3 then(bif main then some (Rw.loc.val at_,some p)else t4 dr p at_ ba g8 one other bV w)else t4 dr p at_ ba g8 one other bV w
noncomputable def N0:List (Int×Int×Int):=[(-8,8,8),(-8,4,4),(-8,2,2),(-16,8,8),(-16,4,4),(-16,2,2),(-24,8,8),(-24,4,4),(-24,2,2),(-32,8,8),(-32,4,4),(-32,2,2),(-4,8,4),(-4,4,4),(-4,2,2),(-12,8,4),(-12,4,4),(-12,2,2),(-20,8,4),(-20,4,4),(-20,2,2),(-28,8,4),(-28,4,4),(-28,2,2)]
theorem Ly(P:Params)(dr:rA)(p:MV)(at_ count:Int)(main ba:Bool)(g8 one other:Int): ∀t∈N0,iQ P 60 (g7 P dr) 647 false 2 (Dd p at_ count main ba g8 one other t.1 t.2.1)=Kv dr p at_ count main ba g8 one other t.1 t.2.2:=by
 iterate 24 refine aN.mpr ⟨by kernel_rfl,?_⟩
 exact fun Y h=>nomatch h
noncomputable def oz:List Int:=[-8,-16,-24,-32,-4,-12,-20,-28]
noncomputable def y6:List (Int×Int):=[(-8,8),(-8,4),(-8,2),(-16,8),(-16,4),(-16,2),(-24,8),(-24,4),(-24,2),(-32,8),(-32,4),(-32,2),(-4,4),(-4,2),(-12,4),(-12,2),(-20,4),(-20,2),(-28,4),(-28,2)]
noncomputable def lU:List (Int×Int):=[(1,2),(2,4),(7,0),(3,2),(87,3),(130,4),(5,0)]
noncomputable def ug(i:Int):Prop:=0≤i∧i<10
noncomputable def Rw.ok(count:Int)(main ba:Bool):Rw→Prop
 | .br code one goal=>code∈[(21:Int),197,69]∧ug one∧0≤goal∧goal≤count
 | .call num many=>(num,many)∈lU
 | .loc=>main=true
 | .ld bV w one=>(bV,w)∈y6∧ug one
 | .st bV w one=>(bV,w)∈y6∧ug one
 | .wN jj bV one=>jj∈[(0:Int),65,160]∧bV∈oz∧ug one
 | .II one=>ba=true∧ug one
 | .Gs=>ba=true
 | .GN bV w=>(bV,w)∈y6
 | .C8 code one other=>code∈[(15:Int),191]∧ug one∧ug other
theorem HC{e:Int}{a b:aH}(h:0≤e)(h':e<2):Kq e a b=a∨Kq e a b=b:=by
 obtain rfl|rfl:e=0∨e=1:=by
  obtain⟨n,a,rfl⟩:=MR (k:=2) h h'
  exact(by decide: ∀n,n<2→((n:Nat):Int)=0∨(n:Int)=1) n a
 .exact .inl rfl
 .exact .inr rfl
theorem v0{e:Int}{a b c:aH}(h:0≤e)(h':e<3):qm e a b c=a∨qm e a b c=b∨qm e a b c=c:=by
 obtain rfl|rfl|rfl:e=0∨e=1∨e=2:=by
  obtain⟨n,a,rfl⟩:=MR (k:=3) h h'
  exact(by decide: ∀n,n<3→((n:Nat):Int)=0∨(n:Int)=1∨(n:Int)=2) n a
 .exact .inl rfl
 .exact .inr (.inl rfl)
 .exact .inr (.inr rfl)
theorem HB{e:Int}{a b c d f g k:aH}(h:0≤e)(h':e<7):wS e a b c d f g k=a∨wS e a b c d f g k=b∨wS e a b c d f g k=c∨wS e a b c d f g k=d∨wS e a b c d f g k=f∨wS e a b c d f g k=g∨wS e a b c d f g k=k:=by
 obtain rfl|rfl|rfl|rfl|rfl|rfl|rfl:e=0∨e=1∨e=2∨e=3∨e=4∨e=5∨e=6:=by
  obtain⟨n,a,rfl⟩:=MR (k:=7) h h'
  exact(by decide: ∀n,n<7→((n:Nat):Int)=0∨(n:Int)=1∨(n:Int)=2∨(n:Int)=3∨(n:Int)=4∨(n:Int)=5∨(n:Int)=6) n a
 .exact .inl rfl
 .exact .inr (.inl rfl)
 .exact .inr (.inr (.inl rfl))
 .exact .inr (.inr (.inr (.inl rfl)))
 .exact .inr (.inr (.inr (.inr (.inl rfl))))
 .exact .inr (.inr (.inr (.inr (.inr (.inl rfl)))))
 .exact .inr (.inr (.inr (.inr (.inr (.inr rfl)))))
inductive fZ(n:Nat)(at_ count:Int)(main ba:Bool)(x:aH):Prop where
 |mk (rw:Rw) (t:MV) (h0:Rw.ok count main ba rw) (h1:fb n t) (h2:x=some (rw.val at_,some t))
section
variable{P:Params}{p:MV}{at_ count:Int}{main ba:Bool}{g8 one other bV w:Int}
theorem OY(hp:fb n p)(hn:n≤999990)(h1:ug one)(h2:ug other):fZ (n+2) at_ count main ba (t9 (lj P) p at_ one other):=by
 obtain⟨d,t,a,b,c,e⟩:=hY (P:=P) (many:=2) hp (by exact af ‹_› (aa rfl)) (by decide) (by decide)
 unfold t9
 refine ae (e ..) ?_
 rcases HC (a:=some ((Rw.C8 15 one other).val at_,some t)) (b:=some ((Rw.C8 191 one other).val at_,some t)) a b with q|q<;>refine ae q ?_
 .exact⟨(Rw.C8 15 one other),t,⟨by decide,h1,h2⟩,c.le (by exact Nat.le_succ _),rfl⟩
 .exact⟨(Rw.C8 191 one other),t,⟨by decide,h1,h2⟩,c.le (by exact Nat.le_succ _),rfl⟩
theorem Jb(hp:fb n p)(hn:n≤999990)(h1:ug one)(h2:ug other)(hw:(bV,w)∈y6):fZ (n+2) at_ count main ba (t8 (lj P) p at_ g8 one other bV w):=by
 unfold t8
 induction g8==8 using ag with
 |true=>exact⟨(Rw.GN bV w),p,hw,hp.le (by exact bN _ _),rfl⟩
 |false=>exact OY hp hn h1 h2
theorem OZ(hp:fb n p)(hn:n≤999990)(h1:ug one)(h2:ug other)(hw:(bV,w)∈y6):fZ (n+2) at_ count main ba (t7 (lj P) p at_ ba g8 one other bV w):=by
 have h8:fZ (n+2) at_ count main ba (RF (lj P) p at_ ba g8 one other bV w):=by
  unfold RF
  induction g8==8 using ag with
  |true=>
   induction ba using ag with
   |true=>exact⟨.Gs,p,rfl,hp.le (by exact bN _ _),rfl⟩
   |false=>exact Jb hp hn h1 h2 hw
  |false=>exact Jb hp hn h1 h2 hw
 unfold t7
 induction g8==7 using ag with
 |true=>
  induction ba using ag with
  |true=>exact⟨.II one,p,⟨rfl,h1⟩,hp.le (by exact bN _ _),rfl⟩
  |false=>exact h8
 |false=>exact h8
theorem Jc(hp:fb n p)(hn:n≤999990)(h1:ug one)(h2:ug other)(hw:(bV,w)∈y6)(hs:bV∈oz):fZ (n+2) at_ count main ba (t4 (lj P) p at_ ba g8 one other bV w):=by
 unfold t4
 induction g8==4 using ag with
 |true=>exact⟨.ld bV w one,p,⟨hw,h1⟩,hp.le (by exact bN _ _),rfl⟩
 |false=>
  induction g8==5 using ag with
  |true=>exact⟨.st bV w one,p,⟨hw,h1⟩,hp.le (by exact bN _ _),rfl⟩
  |false=>
   induction g8==6 using ag with
   |true=>
    obtain⟨d,t,a,b,c,e⟩:=hY (P:=P) (many:=3) hp (by exact af ‹_› (aa rfl)) (by decide) (by decide)
    simp only[ao,bH]
    refine ae (e ..) ?_
    rcases v0 (a:=some ((Rw.wN 0 bV one).val at_,some t)) (b:=some ((Rw.wN 65 bV one).val at_,some t)) (c:=some ((Rw.wN 160 bV one).val at_,some t)) a b with q|q|q<;>refine ae q ?_
    .exact⟨(Rw.wN 0 bV one),t,⟨by decide,hs,h1⟩,c.le (by exact Nat.le_succ _),rfl⟩
    .exact⟨(Rw.wN 65 bV one),t,⟨by decide,hs,h1⟩,c.le (by exact Nat.le_succ _),rfl⟩
    .exact⟨(Rw.wN 160 bV one),t,⟨by decide,hs,h1⟩,c.le (by exact Nat.le_succ _),rfl⟩
   |false=>exact OZ hp hn h1 h2 hw
theorem HF(hp:fb n p)(hn:n≤999990)(h1:ug one)(h2:ug other)(hw:(bV,w)∈y6)(hs:bV∈oz)(hc:0≤count)(BC:count<1000):fZ (n+2) at_ count main ba (Kv (lj P) p at_ count main ba g8 one other bV w):=by
 unfold Kv
 induction decide (g8<2)using ag with
 |true=>
  obtain⟨goal,t,a,b,c,e⟩:=hY (P:=P) (many:=count+1) hp (by exact af ‹_› (aa rfl)) (by lia) (by lia)
  refine ae (ao ..) (ae (e ..) ?_)
  obtain⟨d,t',a',b',c',e'⟩:=hY (P:=P) (many:=3) c (by lia) (by decide) (by decide)
  refine ae (e' ..) ?_
  rcases v0 (a:=some ((Rw.br 21 one goal).val at_,some t')) (b:=some ((Rw.br 197 one goal).val at_,some t')) (c:=some ((Rw.br 69 one goal).val at_,some t')) a' b' with q|q|q<;>refine ae q ?_
  .exact⟨(Rw.br 21 one goal),t',⟨by decide,h1,a,by lia⟩,c'.le (by exact bn _),rfl⟩
  .exact⟨(Rw.br 197 one goal),t',⟨by decide,h1,a,by lia⟩,c'.le (by exact bn _),rfl⟩
  .exact⟨(Rw.br 69 one goal),t',⟨by decide,h1,a,by lia⟩,c'.le (by exact bn _),rfl⟩
 |false=>
  refine ae (bH ..) ?_
  induction g8==2 using ag with
  |true=>
   obtain⟨d,t,a,b,c,e⟩:=hY (P:=P) (many:=7) hp (by exact af ‹_› (aa rfl)) (by decide) (by decide)
   refine ae (ao ..) (ae (e ..) ?_)
   rcases HB (a:=some ((Rw.call 1 2).val at_,some t)) (b:=some ((Rw.call 2 4).val at_,some t)) (c:=some ((Rw.call 7 0).val at_,some t)) (d:=some ((Rw.call 3 2).val at_,some t)) (f:=some ((Rw.call 87 3).val at_,some t)) (g:=some ((Rw.call 130 4).val at_,some t)) (k:=some ((Rw.call 5 0).val at_,some t)) a b with q|q|q|q|q|q|q<;>refine ae q ?_
   .exact⟨Rw.call 1 2,t,by refine(?_:_∈lU);decide,c.le (by exact Nat.le_succ _),rfl⟩
   .exact⟨Rw.call 2 4,t,by refine(?_:_∈lU);decide,c.le (by exact Nat.le_succ _),rfl⟩
   .exact⟨Rw.call 7 0,t,by refine(?_:_∈lU);decide,c.le (by exact Nat.le_succ _),rfl⟩
   .exact⟨Rw.call 3 2,t,by refine(?_:_∈lU);decide,c.le (by exact Nat.le_succ _),rfl⟩
   .exact⟨Rw.call 87 3,t,by refine(?_:_∈lU);decide,c.le (by exact Nat.le_succ _),rfl⟩
   .exact⟨Rw.call 130 4,t,by refine(?_:_∈lU);decide,c.le (by exact Nat.le_succ _),rfl⟩
   .exact⟨Rw.call 5 0,t,by refine(?_:_∈lU);decide,c.le (by exact Nat.le_succ _),rfl⟩
  |false=>
   refine ae (bH ..) ?_
   induction g8==3 using ag with
   |true=>
    induction main using ag with
    |true=>exact⟨.loc,p,rfl,hp.le (by exact bN _ _),rfl⟩
    |false=>exact Jc hp hn h1 h2 hw hs
   |false=>exact Jc hp hn h1 h2 hw hs
end
section
variable{P:Params}{p:MV}{at_ count:Int}{main ba:Bool}{g8 one other bV w:Int}
noncomputable def KO(s w:Int):Int:=bif s % 8==4&&w==8 then 4 else w
theorem E8(hp:fb n p)(hn:n≤999990)(h1:ug one)(h2:ug other)(hs:bV∈oz)(hw:w∈[(8:Int),4,2])(hc:0≤count)(BC:count<1000):
 fZ (n+2) at_ count main ba (iQ P 60 (g7 P (lj P)) 647 false 2 (Dd p at_ count main ba g8 one other bV w)):=by
 have h:=(by decide: ∀s∈oz,∀w∈[(8:Int),4,2],(s,w,KO s w)∈N0∧(s,KO s w)∈y6) bV hs w hw
 exact ae (Ly P _ p at_ count main ba g8 one other (bV,w,KO bV w) h.1) (HF hp hn h1 h2 h.2 hs hc BC)
theorem fZ.qm{x y z:aH}{e:Int}(h:0≤e)(h':e<3)(hx:fZ n at_ count main ba x)(hy:fZ n at_ count main ba y)(hz:fZ n at_ count main ba z):fZ n at_ count main ba (qm e x y z):=by
 rcases v0 (a:=x) (b:=y) (c:=z) h h' with q|q|q<;>refine ae q ?_
 .exact hx
 .exact hy
 .exact hz
theorem Lz(hp:fb n p)(hn:n≤999980)(hc:0≤count)(BC:count<1000):fZ (n+8) at_ count main ba (cB P 60 (g7 P (lj P)) 647 [.lend] false [p,.int at_,.int count,.bool main,.bool ba]):=by
 refine ae (E7 ..) ?_
 obtain⟨g8,p1,a1,b1,o1,e1⟩:=hY (P:=P) (many:=10) hp (by exact af ‹_› (aa rfl)) (by decide) (by decide)
 refine ae (e1 ..) ?_
 obtain⟨one,p2,a2,b2,o2,e2⟩:=hY (P:=P) (many:=10) o1 (by lia) (by decide) (by decide)
 refine ae (e2 ..) ?_
 obtain⟨other,p3,a3,b3,o3,e3⟩:=hY (P:=P) (many:=10) o2 (by lia) (by decide) (by decide)
 refine ae (e3 ..) ?_
 obtain⟨d,p4,a4,b4,o4,e4⟩:=hY (P:=P) (many:=4) o3 (by lia) (by decide) (by decide)
 refine ae (e4 ..) ?_
 clear e4;obtain⟨e,p5,a5,b5,o5,e5⟩:=hY (P:=P) (many:=3) o4 (by lia) (by decide) (by decide)
 refine ae (e5 ..) ?_
 obtain⟨g,p6,a6,b6,o6,e6⟩:=hY (P:=P) (many:=3) o5 (by lia) (by decide) (by decide)
 have hd:d=0∨d=1∨d=2∨d=3:=by
  obtain⟨n,a,rfl⟩:=MR (k:=4) a4 b4
  exact(by decide: ∀n,n<4→((n:Nat):Int)=0∨(n:Int)=1∨(n:Int)=2∨(n:Int)=3) n a
 have s0: -8*(1+d)+0∈oz:=by clear a4 b4;rcases hd with rfl|rfl|rfl|rfl<;>decide
 have s4: -8*(1+d)+4∈oz:=by clear s0;rcases hd with rfl|rfl|rfl|rfl<;>decide
 have go: ∀bV w,bV∈oz→w∈[(8:Int),4,2]→fZ (n+8) at_ count main ba (iQ P 60 (g7 P (lj P)) 647 false 2 (Dd p6 at_ count main ba g8 one other bV w)):=fun bV w hs hw=>
  E8 o6 (by lia) ⟨a2,b2⟩ ⟨a3,b3⟩ hs hw hc BC
 refine fZ.qm a5 b5 ?_ ?_ ?_<;>refine ae (e6 ..) ?_<;>refine fZ.qm a6 b6 ?_ ?_ ?_
 .exact go _ _ s0 (by decide)
 .exact go _ _ s0 (by decide)
 .exact go _ _ s0 (by decide)
 .exact go _ _ s0 (by decide)
 .exact go _ _ s0 (by decide)
 .exact go _ _ s0 (by decide)
 .exact go _ _ s4 (by decide)
 .exact go _ _ s4 (by decide)
 .exact go _ _ s4 (by decide)
end
noncomputable abbrev De:=MV→Int→Int→Bool→Bool→(MV→MV→aH)→aH
noncomputable def wK(P:Params):De:=fun p at_ count main ba k=>MU (cB P 60 (g7 P (lj P)) 647 [.lend] false [p,.int at_,.int count,.bool main,.bool ba]) k
noncomputable def DL(ro:De):ej:=⟨[.lend],false,fun ts K=>aC ts fun p ts=>aC ts fun a ts=>aC ts fun c ts=>aC ts fun m ts=>aC ts fun l ts=>a0 ts <| dI a fun at_=>dI c fun count=>dB m fun main=>dB l fun ba=>ro p at_ count main ba fun r t=>K r (some t)⟩
noncomputable def Rk(P:Params):ej:=bZ P 60 (g7 P (lj P)) 647 [.lend] false []
theorem HE{P:Params}{K:MV→Option MV→aH}{o:MV×Option MV}(h:(DL (wK P)).run ts K=some o):(Rk P).run ts K=some o:=by
 obtain⟨p,ts,rfl,g⟩:=bL h;clear h
 obtain⟨a,ts,rfl,h⟩:=bL g;clear g
 obtain⟨c,ts,rfl,g⟩:=bL h;clear h
 obtain⟨m,ts,rfl,h⟩:=bL g;clear g
 obtain⟨l,ts,rfl,g⟩:=bL h;clear h
 obtain⟨rfl,h⟩:=cm g;clear g
 obtain⟨at_,rfl,g⟩:=dE h;clear h
 obtain⟨count,rfl,h⟩:=dE g;clear g
 obtain⟨main,rfl,g⟩:=nQ h;clear h
 obtain⟨ba,rfl,h⟩:=nQ g;clear g
 obtain⟨r,t,e,g⟩:=rl h;clear h
 have h:=g;clear g
 exact(gL (dflt:=[]) rfl (by kernel_rfl) e rfl).trans h
theorem Q2(hD:Good D):aV D 30 (S "_law_row") (DL (wK D.w.params)):=by
 have tc:eE D 29 (g7 D.w.params (lj D.w.params)):=dV hD (ay (wd hD) (by decide) (ay (Mb hD) (by decide) (ay (wA hD) (by decide) (ay (Mg hD) (by decide) (ay (Mf hD) (by decide) (ay (Io hD) (by decide) (ay (F8 hD) (by decide) (ay (CI hD) (by decide) (ay (yO hD) (by decide) bz))))))))) cX
 have h:cS D 30 (.ref 647) (bZ D.w.params 60 (g7 D.w.params (lj D.w.params)) 647 [.lend] false []):=gK hD (by decide) tc (by kernel_rfl) (by kernel_rfl) rfl
 exact fk hD h (by kernel_rfl) rfl rfl fun Y Y Y h=>HE h
theorem Eg{P:Params}{p:MV}{at_ count:Int}{main ba:Bool}(hp:fb n p)(hn:n≤999980)(hc:0≤count)(BC:count<1000):
 ∃rw t,Rw.ok count main ba rw∧fb (n+8) t∧ ∀k,wK P p at_ count main ba k=k (rw.val at_) t:=by
 obtain⟨rw,t,h1,h2,h3⟩:=Lz (P:=P) (at_:=at_) (main:=main) (ba:=ba) hp hn hc BC
 exact⟨rw,t,h1,h2,fun k=>by unfold wK;exact ae h3 rfl⟩
noncomputable def atS{β:Type}(b:List Stmt)(i:Nat)(d:β)(f:Stmt→β):β:=match b[i]? with|some s=>f s|none=>d
noncomputable def Do{β:Type}(s:Stmt)(k:Expr→Expr→List Stmt→β)(d:β):β:=if h:s.ctorIdx=9 then Stmt.For.elim (motive_2:=fun Y=>β) s h (fun t i b Y Y=>k t i b)else d
noncomputable def j1(b:List Stmt)(i:Nat):List Stmt:=atS b i [] fun s=>Do s (fun Y Y b=>b) []
noncomputable def nR(P:Params)(dr:rA)(ro:De):Cx:=bx [(S "_law_draw",kP dr),(S "_law_row",DL ro),(S "leave",Bm P)] []
noncomputable def uf(P:Params)(dr:rA)(ro:De):Cx:={ nR P dr ro with sc:=dF (KK P) 654,own:=false }
noncomputable abbrev Xf(p:MV)(main:Bool)(count:Int)(ba:Bool)(acc:List MV)(at_:Int):St:=[(.v (S "pen"),.cK p),(.v (S "is_main"),.aw (.bool main)),(.v (S "count"),.aw (.int count)),(.v (S "is_leaky"),.aw (.bool ba)),(.v (S "found"),.own (.list acc)),(.v (S "at"),.aw (.int at_))]
noncomputable abbrev vo(p:MV)(main:Bool)(count:Int)(ba:Bool)(acc:List MV)(at_:Int)(row:Slot):St:=[(.v (S "pen"),.cK p),(.v (S "is_main"),.aw (.bool main)),(.v (S "count"),.aw (.int count)),(.v (S "is_leaky"),.aw (.bool ba)),(.v (S "found"),.own (.list acc)),(.v (S "at"),.aw (.int at_)),(.v (S "row"),row)]
noncomputable def iy(P:Params):List Stmt:=j1 (aL (KK P) 654) 1
theorem HT(P:Params)(dr:rA)(ro:De)(p:MV)(main:Bool)(count:Int)(ba:Bool)(acc:List MV)(at_:Int)(k:St→aH):bF 57 (uf P dr ro) (iy P) (Xf p main count ba acc at_) k=
 ro p at_ count main ba fun r t=>(match d7 r with|some ts=>bif aQ ts.length then bF 56 (uf P dr ro) ((iy P).drop 1) (vo t main count ba acc at_ (.own (.list ts))) k else none|none=>none):=by kernel_rfl
theorem HS(P:Params)(dr:rA)(ro:De)(p:MV)(main:Bool)(count:Int)(ba:Bool)(acc:List MV)(at_:Int)(old:MV)(k:St→aH):bF 57 (uf P dr ro) (iy P) (vo p main count ba acc at_ (.aw old)) k=
 ro p at_ count main ba fun r t=>(match d7 r with|some ts=>bif aQ ts.length then bF 56 (uf P dr ro) ((iy P).drop 1) (vo t main count ba acc at_ (.own (.list ts))) k else none|none=>none):=by kernel_rfl
theorem HR(P:Params)(dr:rA)(ro:De)(p:MV)(main:Bool)(count:Int)(ba:Bool)(acc:List MV)(at_:Int)(o w rd wr lk gl:MV)(us:List MV)(k:St→aH):bF 56 (uf P dr ro) ((iy P).drop 1) (vo p main count ba acc at_ (.own (.list [o,.list us,w,rd,wr,lk,gl]))) k=
 bif aQ acc.length then k (vo p main count ba (acc++[.list [o,.list us,w,rd,wr,lk,gl]]) at_ (.aw (.list [o,.list us,w,rd,wr,lk,gl])))else none:=by kernel_rfl
theorem HQ(P:Params)(dr:rA)(ro:De)(p:MV)(main:Bool)(count:Int)(ba:Bool)(acc:List MV)(at_:Int)(one other:Int)(rd wr lk:MV)(k:St→aH):bF 56 (uf P dr ro) ((iy P).drop 1) (vo p main count ba acc at_ (.own (.list [ff 191 one other 0 0,.none,.list [.int one],rd,wr,lk,.int other]))) k=
 bif aQ acc.length then k (vo p main count ba (acc++[.list [ff 191 one other 0 0,.list [.int other],.list [.int one],rd,wr,lk,.int (-1)]]) at_ (.aw (.list [ff 191 one other 0 0,.list [.int other],.list [.int one],rd,wr,lk,.int (-1)])))else none:=by kernel_rfl
theorem HP(P:Params)(dr:rA)(ro:De)(p:MV)(main:Bool)(count:Int)(ba:Bool)(acc:List MV)(at_:Int)(one other:Int)(rd wr lk:MV)(k:St→aH):bF 56 (uf P dr ro) ((iy P).drop 1) (vo p main count ba acc at_ (.own (.list [ff 15 one other 0 0,.none,.list [.int one],rd,wr,lk,.int other]))) k=
 bif aQ acc.length then k (vo p main count ba (acc++[.list [ff 15 one other 0 0,.list [.int one,.int other],.list [.int one],rd,wr,lk,.int (-1)]]) at_ (.aw (.list [ff 15 one other 0 0,.list [.int one,.int other],.list [.int one],rd,wr,lk,.int (-1)])))else none:=by kernel_rfl
theorem Cj(P:Params)(dr:rA)(ro:De)(p:MV)(main:Bool):cB P 60 (nR P dr ro) 654 [.lend] false [p,.bool main]=
 dr p 5 fun d p=>dr p 3 fun e p=>bif eu (3+d)then bif aQ (((List.range (3+d-0).toNat).map fun i:Nat=>MV.int (0+(i:Int))).length)then
  dN (bF 57 (uf P dr ro) (iy P)) (S "at") ((List.range (3+d-0).toNat).map fun i:Nat=>MV.int (0+(i:Int)))
   [(.v (S "pen"),.cK p),(.v (S "is_main"),.aw (.bool main)),(.v (S "count"),.aw (.int (3+d))),(.v (S "is_leaky"),.aw (.bool (e==1))),(.v (S "found"),.own (.list []))]
   (fun st=>bF 58 (uf P dr ro) ((aL (KK P) 654).drop 2) st fun st=>bif !false then some (.none,ci st)else none)else none else none:=by kernel_rfl
theorem Fv(P:Params)(dr:rA)(ro:De)(p:MV)(main:Bool)(count:Int)(ba:Bool)(acc:List MV)(at_:Int)(row:MV)(k:St→aH):bF 58 (uf P dr ro) ((aL (KK P) 654).drop 2) (vo p main count ba acc at_ (.aw row)) k=
 bif aQ (acc.length+1)then some (.list (acc++[.list [ff 149 0 0 0 0,il [0],il [],il [],il [],.bool false,.int (-1)]]),some p)else none:=by kernel_rfl
noncomputable def Rw.ord(at_:Int):Rw→MV
 | .br code one goal=>ff code one 0 (goal-at_-1) 3
 | .call num _=>ff 133 0 0 0 num
 | .loc=> .none
 | .ld bV w one=>ff (97+jl w) one 10 bV 0
 | .st bV w one=>ff (99+jl w) 10 one bV 0
 | .wN jj bV one=>ff 195 10 one bV jj
 | .II one=>ff 191 one 10 0 0
 | .Gs=>ff 123 10 10 (-16) 0
 | .GN bV w=>ff (98+jl w) 10 0 bV 5
 | .C8 code one other=>ff code one other 0 0
noncomputable def Rw.reads:Rw→List Int
 | .br _ one _=>[one]
 | .call _ many=>jY 1 many
 | .loc=>[1,2,3,4,5]
 | .ld _ _ _=>[10]
 | .st _ _ one=>[10,one]
 | .wN _ _ one=>[10,one]
 | .II _=>[10]
 | .Gs=>[10]
 | .GN _ _=>[10]
 | .C8 code one other=>if code=191 then[other]else[one,other]
noncomputable def Rw.writes:Rw→List Int
 | .br _ _ _=>[]
 | .call _ _=>[0,1,2,3,4,5]
 | .loc=>[0,1,2,3,4,5]
 | .ld _ _ one=>[one]
 | .st _ _ _=>[]
 | .wN jj _ one=>if jj=65 then[one]else[]
 | .II one=>[one]
 | .Gs=>[]
 | .GN _ _=>[]
 | .C8 _ one _=>[one]
noncomputable def Rw.rd:Rw→List Int
 | .ld bV w _=>jY bV w
 | .wN _ bV _=>jY bV 4
 |_=>[]
noncomputable def Rw.wr:Rw→List Int
 | .st bV w _=>jY bV w
 | .Gs=>jY (-16) 8
 | .GN bV w=>jY bV w
 |_=>[]
noncomputable def Rw.fF:Rw→Bool
 | .II _=>true
 | .Gs=>true
 |_=>false
noncomputable def Rw.goal:Rw→Int
 | .br _ _ goal=>goal
 |_=> -1
noncomputable def DC(o:MV)(reads writes rd wr:List Int)(fF:Bool)(goal:Int):MV:= .list [o,il reads,il writes,il rd,il wr,.bool fF,.int goal]
noncomputable def Rw.fin(at_:Int)(r:Rw):MV:=DC (r.ord at_) r.reads r.writes r.rd r.wr r.fF r.goal
theorem uL(P:Params)(dr:rA)(ro:De){p:MV}{main:Bool}{count:Int}{ba:Bool}{acc:List MV}{at_:Int}{rw:Rw}{k:St→aH}(BA:Rw.ok count main ba rw)(ha:aQ acc.length=true):
 (match d7 (rw.val at_)with|some ts=>bif aQ ts.length then bF 56 (uf P dr ro) ((iy P).drop 1) (vo p main count ba acc at_ (.own (.list ts))) k else none|none=>none)=
   k (vo p main count ba (acc++[rw.fin at_]) at_ (.aw (rw.fin at_))):=by
 have fin: ∀{o w rd wr lk gl:MV}{us:List MV},bF 56 (uf P dr ro) ((iy P).drop 1) (vo p main count ba acc at_ (.own (.list [o,.list us,w,rd,wr,lk,gl]))) k=k (vo p main count ba (acc++[.list [o,.list us,w,rd,wr,lk,gl]]) at_ (.aw (.list [o,.list us,w,rd,wr,lk,gl]))):=by
  intro o w rd wr lk gl us
  exact(HR ..).trans (ae ha rfl)
 have go: ∀{l:List MV},d7 (rw.val at_)=some l→aQ l.length=true→(match d7 (rw.val at_)with|some ts=>bif aQ ts.length then bF 56 (uf P dr ro) ((iy P).drop 1) (vo p main count ba acc at_ (.own (.list ts))) k else none|none=>none)=bF 56 (uf P dr ro) ((iy P).drop 1) (vo p main count ba acc at_ (.own (.list l))) k:=by
  intro l h h'
  refine ae h ?_
  refine(?_:(bif aQ l.length then _ else none)=_)
  exact ae h' rfl
 cases rw with
 |C8 code one other=>
  obtain⟨hc,Y,Y⟩:=BA
  simp only[aA,cH,or_false]at hc
  rcases hc with rfl|rfl
  .refine(go (l:=[ff 15 one other 0 0,.none,.list [.int one],il [],il [],.bool false,.int other]) rfl rfl).trans ?_
   exact(HP ..).trans (ae ha rfl)
  .refine(go (l:=[ff 191 one other 0 0,.none,.list [.int one],il [],il [],.bool false,.int other]) rfl rfl).trans ?_
   exact(HQ ..).trans (ae ha rfl)
 |wN jj bV one=>
  obtain⟨hc,Y,Y⟩:=BA
  simp only[aA,cH,or_false]at hc
  rcases hc with rfl|rfl|rfl<;>exact(go rfl rfl).trans fin
 |_=>exact(go rfl rfl).trans fin
noncomputable def io:Int→List Rw→List MV
 |_,[]=>[]
 |i,r::rs=>r.fin i::io (i+1) rs
theorem x6{B:St→(St→aH)→aH}{k:St→aH}(h:dK (st.get (.v x))=true):dN B x (t::ts) st k=B (st.put (.v x) (.aw t)) fun st=>dN B x ts st k:=by
 refine(?_:(bif dK (st.get (.v x))then _ else none)=_)
 exact ae h rfl
theorem Ci{P:Params}{main:Bool}{count:Int}{ba:Bool}{K:St→aH}(hc:0≤count)(BC:count<1000): ∀(m:Nat){n:Nat}{p:MV}{acc:List MV}{i at_:Int}{old:MV},fb n p→n+8*m≤999980→acc.length+m≤1000→
 ∃(jK:List Rw) (t:MV) (NU:Int) (Dp:MV),jK.length=m∧(∀r∈jK,Rw.ok count main ba r)∧fb (n+8*m) t∧
  dN (bF 57 (uf P (lj P) (wK P)) (iy P)) (S "at") ((List.range m).map fun j:Nat=>MV.int (i+(j:Int))) (vo p main count ba acc at_ (.aw old)) K=K (vo t main count ba (acc++io i jK) NU (.aw Dp)):=by
 intro m
 induction m with
 |zero=>
  intro n p acc i at_ old hp Y Y
  exact⟨[],p,at_,old,rfl,fun Y h=>(nomatch h),hp,by rw[show io i []=[]from rfl,bG];rfl⟩
 |succ m ih=>
  intro n p acc i at_ old hp h1 h2
  obtain⟨IR,t,q1,q2,q3⟩:=Eg (P:=P) (at_:=i+((0:Nat):Int)) (count:=count) (main:=main) (ba:=ba) hp (by lia) hc BC
  obtain⟨jK,t',NU,Dp,r1,r2,r3,r4⟩:=ih (n:=n+8) (p:=t) (acc:=acc++[IR.fin (i+((0:Nat):Int))]) (i:=i+1) (at_:=i+((0:Nat):Int)) (old:=IR.fin (i+((0:Nat):Int))) q2 (by lia) (by refine ae b0 ?_;simp only[bw,List.length_nil];lia)
  refine⟨IR::jK,t',NU,Dp,by exact bw.trans (ae r1 rfl),fun r hr=>?_,by rw[show n+8*(m+1)=n+8+8*m by rw[Nat.mul_succ,Nat.add_comm (8*m) 8,Nat.add_assoc]];exact r3,?_⟩
  .clear q3 r4;rcases aA.mp hr with rfl|hr
   .exact q1
   .exact r2 r hr
  .refine ae List.range_succ_eq_map (ae bv (ae List.map_map ?_))
   refine(x6 (h:=rfl)).trans ?_
   refine(?_:bF 57 (uf P (lj P) (wK P)) (iy P) (vo p main count ba acc (i+((0:Nat):Int)) (.aw old)) (fun st=>dN (bF 57 (uf P (lj P) (wK P)) (iy P)) (S "at") (List.map ((fun j:Nat=>MV.int (i+(j:Int))) ∘ Nat.succ) (List.range m)) st K)=_)
   refine(HS ..).trans ((q3 ..).trans ?_)
   refine(uL P (lj P) (wK P) q1 (by unfold aQ;simp only[a9];lia)).trans ?_
   have e:((fun j:Nat=>MV.int (i+(j:Int))) ∘ Nat.succ)=fun j:Nat=>MV.int (i+1+(j:Int)):=by
    funext j;refine(?_:MV.int (i+((j.succ:Nat):Int))=_);congr 1;lia
   refine ae e (r4.trans ?_)
   rw[show i+((0:Nat):Int)=i from Int.add_zero i,bE];rfl
noncomputable def oT:MV:=DC (ff 149 0 0 0 0) [0] [] [] [] false (-1)
inductive IH(n:Nat)(main:Bool)(x:aH):Prop where
 |mk (jK:List Rw) (ba:Bool) (t:MV) (h0:3≤jK.length) (h1:jK.length≤7) (h2:(∀r∈jK,Rw.ok (jK.length:Nat) main ba r)) (h3:fb n t) (h4:x=some (.list (io 0 jK++[oT]),some t))
noncomputable def Jq(P:Params):St→aH:=fun st=>bF 58 (uf P (lj P) (wK P)) ((aL (KK P) 654).drop 2) st fun st=>bif !false then some (.none,ci st)else none
theorem HO{P:Params}{p:MV}{main:Bool}(hp:fb n p)(hn:n≤999000):IH (n+58) main (cB P 60 (nR P (lj P) (wK P)) 654 [.lend] false [p,.bool main]):=by
 refine ae (Cj ..) ?_
 obtain⟨d,p1,a1,b1,o1,e1⟩:=hY (P:=P) (many:=5) hp (by exact af ‹_› (aa rfl)) (by trivial) (by trivial)
 refine ae (e1 ..) ?_
 obtain⟨e,p2,a2,b2,o2,e2⟩:=hY (P:=P) (many:=3) o1 (by lia) (by trivial) (by trivial)
 refine ae (e2 ..) ?_
 obtain⟨j,hj,rfl⟩:=MR (k:=5) a1 b1
 obtain⟨m,hm,em⟩: ∃m:Nat,3+(j:Int)=((m+1:Nat):Int)∧m=j+2:=⟨j+2,by rw[Int.add_comm];rfl,rfl⟩
 have M0:2≤m∧m≤6:=em▸⟨Nat.le_add_left 2 j,Nat.add_le_add_right (Nat.le_of_lt_succ hj) 2⟩
 have NC:m+1≤7:=Nat.succ_le_succ M0.2
 clear em hj a1 b1
 refine ae hm ?_
 have Ys:(((m+1:Nat):Int)-0).toNat=m+1:=by rfl
 refine ae Ys ?_
 have x1:eu ((m+1:Nat):Int)=true:=by unfold eu;simp only[aU,a9];exact⟨Int.le_trans (by decide) (Int.natCast_nonneg _),c7.mpr (aX NC (by decide))⟩
 have x2:aQ (((List.range (m+1)).map fun i:Nat=>MV.int (0+(i:Int))).length)=true:=by
  refine ae (ai ..) (ae aG ?_);unfold aQ;simp only[a9];exact af NC (by decide)
 refine ae x1 (ae x2 (ae (ao ..) (ae (ao ..) ?_)))
 generalize Te:(e==1)=ba
 obtain⟨IR,t,q1,q2,q3⟩:=Eg (P:=P) (at_:=0+((0:Nat):Int)) (count:=((m+1:Nat):Int)) (main:=main) (ba:=ba) o2 (by lia) (by exact Int.natCast_nonneg _) (c7.mpr (aX NC (by decide)))
 refine ae List.range_succ_eq_map (ae bv (ae List.map_map ?_))
 have e3:((fun j:Nat=>MV.int (0+(j:Int))) ∘ Nat.succ)=fun j:Nat=>MV.int (0+1+(j:Int)):=by
  funext j;exact aB MV.int (show(0:Int)+((j.succ:Nat):Int)=0+1+(j:Int) by lia)
 refine ae e3 ?_
 obtain⟨jK,t',NU,Dp,r1,r2,r3,r4⟩:=Ci (P:=P) (main:=main) (count:=((m+1:Nat):Int)) (ba:=ba) (K:=Jq P) (by exact Int.natCast_nonneg _) (c7.mpr (aX NC (by decide))) m
  (n:=n+1+1+8) (p:=t) (acc:=[IR.fin (0+((0:Nat):Int))]) (i:=0+1) (at_:=0+((0:Nat):Int)) (old:=IR.fin (0+((0:Nat):Int))) q2 (af (Nat.add_le_add (Nat.add_le_add_right hn 10) (Nat.mul_le_mul_left 8 M0.2)) (by decide)) (by simp only[bw,List.length_nil];lia)
 refine⟨IR::jK,ba,t',Nat.succ_le_succ (af M0.1 (c6 r1.symm)),Nat.succ_le_succ (af (c6 r1) M0.2),fun r hr=>?_,r3.le (Nat.add_le_add_left (Nat.mul_le_mul_left 8 M0.2) (n+10)),?_⟩
 .refine ae bw (ae r1 ?_)
  clear q3 r4;rcases aA.mp hr with rfl|hr
  .exact q1
  .exact r2 r hr
 .refine(x6 (h:=rfl)).trans ?_
  refine(?_:bF 57 (uf P (lj P) (wK P)) (iy P) (Xf p2 main ((m+1:Nat):Int) ba [] (0+((0:Nat):Int))) (fun st=>dN (bF 57 (uf P (lj P) (wK P)) (iy P)) (S "at") (List.map (fun j:Nat=>MV.int (0+1+(j:Int))) (List.range m)) st (Jq P))=_)
  refine(HT ..).trans ((q3 ..).trans ?_)
  refine(uL P (lj P) (wK P) q1 (by rfl)).trans ?_
  refine r4.trans ?_
  have x3:aQ (([IR.fin (0+((0:Nat):Int))]++io (0+1) jK).length+1)=true:=by
   have: ∀(rs:List Rw)(i:Int),(io i rs).length=rs.length:=by
    intro rs
    induction rs with
    |nil=>intro i;rfl
    |cons r rs ih=>intro i;(rewrite[io];exact bw.trans (ae bw (ae (ih ..) rfl)))
   refine ae b0 (ae (this ..) (ae r1 ?_))
   unfold aQ;simp only[a9,bw,List.length_nil];exact af (by rw[aT,Nat.add_comm 1 m];exact Nat.succ_le_succ NC) (by decide)
  refine(Fv P (lj P) (wK P) t' main _ ba _ NU Dp _).trans ?_
  exact ae x3 rfl
noncomputable abbrev Nh:=MV→Bool→(MV→MV→aH)→aH
noncomputable def GQ(P:Params):Nh:=fun p main k=>MU (cB P 60 (nR P (lj P) (wK P)) 654 [.lend] false [p,.bool main]) k
noncomputable def vJ(pa:Nh):ej:=⟨[.lend],false,fun ts K=>aC ts fun p ts=>aC ts fun m ts=>a0 ts <| dB m fun main=>pa p main fun r t=>K r (some t)⟩
noncomputable def MF(P:Params):ej:=bZ P 60 (nR P (lj P) (wK P)) 654 [.lend] false []
theorem Fu{P:Params}{K:MV→Option MV→aH}{o:MV×Option MV}(h:(vJ (GQ P)).run ts K=some o):(MF P).run ts K=some o:=by
 obtain⟨p,ts,rfl,g⟩:=bL h;clear h
 obtain⟨m,ts,rfl,h⟩:=bL g;clear g
 obtain⟨rfl,g⟩:=cm h;clear h
 obtain⟨main,rfl,h⟩:=nQ g;clear g
 obtain⟨r,t,e,g⟩:=rl h;clear h
 have h:=g;clear g
 exact(gL (dflt:=[]) rfl (by kernel_rfl) e rfl).trans h
theorem Mc(hD:Good D):aV D 31 (S "_law_part") (vJ (GQ D.w.params)):=by
 have tc:eE D 30 (nR D.w.params (lj D.w.params) (wK D.w.params)):=dV hD (ay (wd hD) (by decide) (ay (Q2 hD) (by decide) (ay (Iq hD) (by decide) bz))) cX
 have h:cS D 31 (.ref 654) (bZ D.w.params 60 (nR D.w.params (lj D.w.params) (wK D.w.params)) 654 [.lend] false []):=gK hD (by decide) tc (by kernel_rfl) (by kernel_rfl) rfl
 exact fk hD h (by kernel_rfl) rfl rfl fun Y Y Y h=>Fu h
theorem Ej{P:Params}{p:MV}{main:Bool}(hp:fb n p)(hn:n≤999000):
 ∃(jK:List Rw) (ba:Bool) (t:MV),3≤jK.length∧jK.length≤7∧(∀r∈jK,Rw.ok (jK.length:Nat) main ba r)∧fb (n+58) t∧ ∀k,GQ P p main k=k (.list (io 0 jK++[oT])) t:=by
 obtain⟨jK,ba,t,h1,h2,h3,h4,h5⟩:=HO (P:=P) (main:=main) hp hn
 exact⟨jK,ba,t,h1,h2,h3,h4,fun k=>by unfold GQ;exact ae h5 rfl⟩
theorem C4(P:Params)(ts:List MV)(at_:Int):cB P 60 (bx [] []) 661 [] false [.list ts,.int at_]=
 bif at_==(ts.length:Nat)-1 then some (.list [],none)else
 (bif pC at_ ts.length then(match ts[at_.toNat]? with
   |some t=>ea t (.int 6) fun g=>eN .Lt g (.int 0) fun b=>bif b then some (.list [.int (at_+1)],none)else
    (bif pC at_ ts.length then(match ts[at_.toNat]? with
      |some t=>ea t (.int 6) fun g=>some (.list [.int (at_+1),g],none)
      |none=>none)else none)
   |none=>none)else none):=by kernel_rfl
noncomputable def v4(t:MV):Option Int:=dL t fun l=>aC l fun Y l=>aC l fun Y l=>aC l fun Y l=>aC l fun Y l=>aC l fun Y l=>aC l fun Y l=>aC l fun g l=>a0 l <| dI g some
noncomputable def oN(n:Nat)(at_ g:Int):List Int:=if at_=(n:Int)-1 then[]else if g<0 then[at_+1]else[at_+1,g]
theorem wo{g:Int}(h:v4 t=some g): ∃a b c d e f,t= .list [a,b,c,d,e,f,.int g]:=by
 obtain⟨l,rfl,g⟩:=ju h;clear h
 obtain⟨a,l,rfl,h⟩:=bL g;clear g
 obtain⟨b,l,rfl,g⟩:=bL h;clear h
 obtain⟨c,l,rfl,h⟩:=bL g;clear g
 obtain⟨d,l,rfl,g⟩:=bL h;clear h
 obtain⟨e,l,rfl,h⟩:=bL g;clear g
 obtain⟨f,l,rfl,g⟩:=bL h;clear h
 obtain⟨g,l,rfl,h⟩:=bL g;clear g
 obtain⟨rfl,g⟩:=cm h;clear h
 obtain⟨g,rfl,h⟩:=dE g;clear g
 obtain rfl:=b8 h;exact⟨_,_,_,_,_,_,rfl⟩
theorem C3{P:Params}{at_:Nat}{g:Int}(hl:ts.length≤1000)(ht:ts[at_]? =some t)(hg:v4 t=some g):cB P 60 (bx [] []) 661 [] false [.list ts,.int at_]=some (il (oN ts.length at_ g),none):=by
 obtain⟨a,b,c,d,e,f,rfl⟩:=wo hg
 have gG:at_<ts.length:=(a8.mp ht).1
 refine(C4 ..).trans ?_
 have x1:pC (at_:Int) ts.length=true:=by unfold pC;simp only[aU,a9];exact Nm (af ‹_› (by decide)) ‹_›
 have x2:((at_:Nat):Int).toNat=at_:=bJ at_
 refine ae x1 (ae x2 (ae ht ?_))
 unfold oN
 by_cases q:(at_:Int)=(ts.length:Int)-1
 .exact ae (aF q) (ae (show((at_:Int)==(ts.length:Nat)-1)=true by simpa using q) rfl)
 .refine ae (az q) (ae (show((at_:Int)==(ts.length:Nat)-1)=false by simpa using q) ?_)
  refine(?_:eN .Lt (.int g) (.int 0) (fun b=>bif b then some (.list [.int ((at_:Int)+1)],none)else some (.list [.int ((at_:Int)+1),.int g],none))=_)
  refine(?_:(bif decide (g<0)then some (MV.list [.int ((at_:Int)+1)],none)else some (.list [.int ((at_:Int)+1),.int g],none))=_)
  by_cases q2:g<0
  .exact ae (aF q2) (ae (aW q2) rfl)
  .exact ae (az q2) (ae (cz q2) rfl)
noncomputable abbrev uh:=List MV→Int→(List MV→aH)→aH
noncomputable def I7(P:Params):uh:=fun rs a k=>Nt (cB P 60 (bx [] []) 661 [] false [.list rs,.int a]) fun r=>dL r k
noncomputable def lX(be:uh):ej:=⟨[],false,fun ts K=>aC ts fun r ts=>aC ts fun a ts=>a0 ts <| dL r fun rs=>dI a fun a=>be rs a fun us=>K (.list us) none⟩
noncomputable def Gk(P:Params):ej:=bZ P 60 (bx [] []) 661 [] false []
theorem Ap{P:Params}{K:MV→Option MV→aH}{o:MV×Option MV}(h:(lX (I7 P)).run ts K=some o):(Gk P).run ts K=some o:=by
 obtain⟨r,ts,rfl,g⟩:=bL h;clear h
 obtain⟨a,ts,rfl,h⟩:=bL g;clear g
 obtain⟨rfl,g⟩:=cm h;clear h
 obtain⟨rs,rfl,h⟩:=ju g;clear g
 obtain⟨a,rfl,g⟩:=dE h;clear h
 obtain⟨r,e,h⟩:=rq g;clear g
 obtain⟨us,rfl,g⟩:=ju h;clear h
 have h:=g;clear g
 exact(gL (dflt:=[]) rfl (by kernel_rfl) e rfl).trans h
theorem F7(hD:Good D):aV D 21 (S "_law_behind") (lX (I7 D.w.params)):=by
 have h:cS D 21 (.ref 661) (bZ D.w.params 60 (bx [] []) 661 [] false []):=gK hD (by decide) (dV hD bz cX) (by kernel_rfl) (by kernel_rfl) rfl
 exact fk hD h (by kernel_rfl) rfl rfl fun Y Y Y h=>Ap h
theorem ER{P:Params}{at_:Nat}{g:Int}(hl:ts.length≤1000)(ht:ts[at_]? =some t)(hg:v4 t=some g): ∀k,I7 P ts at_ k=k ((oN ts.length at_ g).map .int):=fun k=>by
 unfold I7;exact ae (C3 hl ht hg) rfl
structure Ty(α:Type) where
 up:α→MV
 dn:MV→Option α
 ok: ∀t a,dn t=some a→up a=t
 ko: ∀a,dn (up a)=some a
noncomputable def gb:Ty Bool:=⟨.bool,fun t=>dB t some,fun t a h=>(by obtain⟨i,rfl,g⟩:=nQ h;exact aB _ (b8 g).symm),fun Y=>rfl⟩
noncomputable def ed:Ty Int:=⟨.int,fun t=>dI t some,fun t a h=>(by obtain⟨i,rfl,g⟩:=dE h;exact aB _ (b8 g).symm),fun Y=>rfl⟩
noncomputable def f9:Ty (List MV):=⟨.list,fun t=>dL t some,fun t a h=>(by obtain⟨i,rfl,g⟩:=ju h;exact aB _ (b8 g).symm),fun Y=>rfl⟩
noncomputable def mX:Ty MV:=⟨id,some,fun t a h=>(by obtain rfl:=b8 h;rfl),fun Y=>rfl⟩
noncomputable abbrev U1(α:Type):=MV→(α→aH)→aH
noncomputable abbrev U2(α:Type):=MV→MV→(α→aH)→aH
noncomputable abbrev U4(α:Type):=MV→MV→MV→MV→(α→aH)→aH
section
variable{α:Type}
noncomputable def s1(T:Ty α)(f:U1 α):ej:=⟨[],false,fun ts K=>aC ts fun a l=>a0 l <| f a fun r=>K (T.up r) none⟩
noncomputable def s2(T:Ty α)(f:U2 α):ej:=⟨[],false,fun ts K=>aC ts fun a l=>aC l fun b l=>a0 l <| f a b fun r=>K (T.up r) none⟩
noncomputable def s4(T:Ty α)(f:U4 α):ej:=⟨[],false,fun ts K=>aC ts fun a l=>aC l fun b l=>aC l fun c l=>aC l fun d l=>a0 l <| f a b c d fun r=>K (T.up r) none⟩
noncomputable def I8(T:Ty α)(o:aH)(k:α→aH):aH:=Nt o fun r=>(T.dn r).bind k
noncomputable def K1(T:Ty α)(P:Params)(cx:Cx)(f:Addr):U1 α:=fun a k=>I8 T (cB P 60 cx f [] false [a]) k
noncomputable def K2(T:Ty α)(P:Params)(cx:Cx)(f:Addr):U2 α:=fun a b k=>I8 T (cB P 60 cx f [] false [a,b]) k
noncomputable def K4(T:Ty α)(P:Params)(cx:Cx)(f:Addr):U4 α:=fun a b c d k=>I8 T (cB P 60 cx f [] false [a,b,c,d]) k
theorem l6{T:Ty α}{o:aH}{k:α→aH}{z:MV×Option MV}(h:I8 T o k=some z): ∃r x,o=some (r,none)∧T.up x=r∧k x=some z:=by
 obtain⟨r,rfl,h⟩:=rq h
 obtain⟨x,e,h⟩:=cL h
 exact⟨r,x,rfl,T.ok _ _ e,h⟩
theorem cZ{T:Ty α}{o:aH}{x:α}(h:o=some (T.up x,none))(k:α→aH):I8 T o k=k x:=by
 exact ae h (aB (Option.bind · k) (T.ko x))
variable{f:Addr}{name:Str}{C:Addr}{T:Ty α}
theorem gJ{P:Params}(hl:fY P f [] [] [.none]=true){K:MV→Option MV→aH}{o:MV×Option MV}(h:(s1 T (K1 T P cx f)).run ts K=some o):(bZ P 60 cx f [] false []).run ts K=some o:=by
 obtain⟨a,l,rfl,h⟩:=bL h
 obtain⟨rfl,h⟩:=cm h
 obtain⟨r,x,e1,rfl,e3⟩:=l6 h
 exact(gL (dflt:=[]) rfl (show fY P f [] [] [a]=true from hl) e1 rfl).trans e3
theorem Ef{P:Params}(hl:fY P f [] [] [.none,.none]=true){K:MV→Option MV→aH}{o:MV×Option MV}(h:(s2 T (K2 T P cx f)).run ts K=some o):(bZ P 60 cx f [] false []).run ts K=some o:=by
 obtain⟨a,l,rfl,h⟩:=bL h
 obtain⟨b,l,rfl,h⟩:=bL h
 obtain⟨rfl,h⟩:=cm h
 obtain⟨r,x,e1,rfl,e3⟩:=l6 h
 exact(gL (dflt:=[]) rfl (show fY P f [] [] [a,b]=true from hl) e1 rfl).trans e3
theorem Lw{P:Params}(hl:fY P f [] [] [.none,.none,.none,.none]=true){K:MV→Option MV→aH}{o:MV×Option MV}(h:(s4 T (K4 T P cx f)).run ts K=some o):(bZ P 60 cx f [] false []).run ts K=some o:=by
 obtain⟨a,l,rfl,h⟩:=bL h
 obtain⟨b,l,rfl,h⟩:=bL h
 obtain⟨c,l,rfl,h⟩:=bL h
 obtain⟨d,l,rfl,h⟩:=bL h
 obtain⟨rfl,h⟩:=cm h
 obtain⟨r,x,e1,rfl,e3⟩:=l6 h
 exact(gL (dflt:=[]) rfl (show fY P f [] [] [a,b,c,d]=true from hl) e1 rfl).trans e3
theorem f1(hD:Good D)(T:Ty α)(hn:20≤n)(tc:eE D n cx)(hc:lP (KK D.w.params) f=true)(pG:kM (KK D.w.params) (gi (KK D.w.params) f).defaults []=true)(hl:fY D.w.params f [] [] [.none]=true)
 (jI:(nsIn (KK D.w.params) mainGlobals name==some (some (.ref f))&&keepIn (KK D.w.params) (.ref f))=true):aV D (n+1) name (s1 T (K1 T D.w.params cx f)):=by
 have h:cS D (n+1) (.ref f) (bZ D.w.params 60 cx f [] false []):=gK hD hn tc hc pG rfl
 exact fk hD h jI rfl rfl fun Y Y Y h=>gJ hl h
theorem f2(hD:Good D)(T:Ty α)(hn:20≤n)(tc:eE D n cx)(hc:lP (KK D.w.params) f=true)(pG:kM (KK D.w.params) (gi (KK D.w.params) f).defaults []=true)(hl:fY D.w.params f [] [] [.none,.none]=true)
 (jI:(nsIn (KK D.w.params) mainGlobals name==some (some (.ref f))&&keepIn (KK D.w.params) (.ref f))=true):aV D (n+1) name (s2 T (K2 T D.w.params cx f)):=by
 have h:cS D (n+1) (.ref f) (bZ D.w.params 60 cx f [] false []):=gK hD hn tc hc pG rfl
 exact fk hD h jI rfl rfl fun Y Y Y h=>Ef hl h
theorem f4(hD:Good D)(T:Ty α)(hn:20≤n)(tc:eE D n cx)(hc:lP (KK D.w.params) f=true)(pG:kM (KK D.w.params) (gi (KK D.w.params) f).defaults []=true)(hl:fY D.w.params f [] [] [.none,.none,.none,.none]=true)
 (jI:(nsIn (KK D.w.params) mainGlobals name==some (some (.ref f))&&keepIn (KK D.w.params) (.ref f))=true):aV D (n+1) name (s4 T (K4 T D.w.params cx f)):=by
 have h:cS D (n+1) (.ref f) (bZ D.w.params 60 cx f [] false []):=gK hD hn tc hc pG rfl
 exact fk hD h jI rfl rfl fun Y Y Y h=>Lw hl h
theorem m1(hD:Good D)(T:Ty α)(hn:20≤n)(tc:eE D n cx)(hc:lP (KK D.w.params) f=true)(pG:kM (KK D.w.params) (gi (KK D.w.params) f).defaults []=true)(hl:fY D.w.params f [] [] [.none]=true)
 (jI:rx (KK D.w.params) C name f=true):eb D (n+1) C name (s1 T (K1 T D.w.params cx f)):=by
 have h:cS D (n+1) (.ref f) (bZ D.w.params 60 cx f [] false []):=gK hD hn tc hc pG rfl
 exact uN hD h jI rfl rfl fun Y Y Y h=>gJ hl h
theorem m2(hD:Good D)(T:Ty α)(hn:20≤n)(tc:eE D n cx)(hc:lP (KK D.w.params) f=true)(pG:kM (KK D.w.params) (gi (KK D.w.params) f).defaults []=true)(hl:fY D.w.params f [] [] [.none,.none]=true)
 (jI:rx (KK D.w.params) C name f=true):eb D (n+1) C name (s2 T (K2 T D.w.params cx f)):=by
 have h:cS D (n+1) (.ref f) (bZ D.w.params 60 cx f [] false []):=gK hD hn tc hc pG rfl
 exact uN hD h jI rfl rfl fun Y Y Y h=>Ef hl h
end
theorem eF{B:St→(St→aH)→aH}(I:Nat→St→Prop): ∀{ts:List MV}{j:Nat}{st:St},
 (∀i t st,ts[i]? =some t→I (j+i) st→dK (st.get (.v x))=true∧ ∃bB,I (j+i+1) bB∧ ∀k,B (st.put (.v x) (.aw t)) k=k bB)→I j st→
 ∃bB,I (j+ts.length) bB∧ ∀K,dN B x ts st K=K bB:=by
 intro l_
 induction l_ with
 |nil=>intro j st _ h;exact⟨st,h,fun Y=>rfl⟩
 |cons t ts ih=>
  intro j st hs h
  obtain⟨c,qk,h1,e1⟩:=hs 0 t st rfl h
  obtain⟨vd,h2,e2⟩:=ih (j:=j+1) (st:=qk) (fun i t st a b=>by
   have:=hs (i+1) t st a
   rw[show j+(i+1)=j+1+i by lia]at this
   exact this b) h1
  refine⟨vd,by rw[bw,show j+(ts.length+1)=j+1+ts.length by lia];exact h2,fun K=>?_⟩
  refine(?_:(bif dK (st.get (.v x))then B (st.put (.v x) (.aw t)) fun st=>dN B x ts st K else none)=_)
  exact ae c ((ao ..).trans ((e1 ..).trans ((e2 ..))))
open PySem
noncomputable def kO(a b:Nat):Nat:=a-(a &&& b)
theorem xz{a c:Nat}(h:c≤a)(hm:c % 2≤a % 2):(a-c) / 2=a / 2-c / 2∧(a-c) % 2=a % 2-c % 2:=by
 have hu:c / 2≤a / 2:=Nat.div_le_div_right h
 have lt:a % 2-c % 2<2:=aX (Nat.sub_le ..) (Nat.mod_lt _ (by decide))
 have e:a-c=2*(a / 2-c / 2)+(a % 2-c % 2):=Nat.sub_eq_of_eq_add (by
  conv=>rhs;rhs;rw[←Nat.div_add_mod c 2]
  rw[Nat.add_add_add_comm,←Nat.mul_add,Nat.sub_add_cancel hu,Nat.sub_add_cancel hm,Nat.div_add_mod])
 rw[e]
 exact⟨by rw[Nat.mul_add_div (by decide),Nat.div_eq_of_lt lt,Nat.add_zero],by rw[Nat.mul_add_mod,Nat.mod_eq_of_lt lt]⟩
theorem Br(a b:Nat):(a &&& b) % 2≤a % 2:=by
 rcases Nat.mod_two_eq_zero_or_one (a &&& b)with r|r
 .exact r▸Nat.zero_le _
 .exact r▸(Nat.and_mod_two_eq_one.mp r).1▸bn _
theorem Gq(a b:Nat):(a &&& b) / 2=a / 2 &&& b / 2:=Nat.eq_of_testBit_eq fun j=>by
 rw[Nat.testBit_and,Nat.testBit_div_two,Nat.testBit_div_two,Nat.testBit_div_two,Nat.testBit_and]
theorem Ar: ∀(i a b:Nat),(kO a b).testBit i=(a.testBit i&& !b.testBit i):=by
 intro i
 induction i with
 |zero=>
  intro a b
  have h1:(a &&& b).testBit 0=(a.testBit 0&&b.testBit 0):=Nat.testBit_and a b 0
  rw[Nat.testBit_zero,Nat.testBit_zero,Nat.testBit_zero]at*
  refine(aB (fun x=>decide (x=1)) (xz Nat.and_le_left (Br a b)).2).trans ?_
  rcases Nat.mod_two_eq_zero_or_one a with p|p
  .rw[p,Nat.zero_sub];rfl
  .rw[p]at h1 ⊢
   rcases Nat.mod_two_eq_zero_or_one b with q|q
   .rw[q]at h1 ⊢
    have:=(Nat.mod_two_eq_zero_or_one (a &&& b)).resolve_right (of_decide_eq_false h1)
    rw[this];rfl
   .rw[q]at h1 ⊢
    rw[aj h1];rfl
 |succ i ih=>
  intro a b
  rw[Nat.testBit_succ,Nat.testBit_succ,Nat.testBit_succ,←ih]
  exact aB (·.testBit i) ((xz Nat.and_le_left (Br a b)).1.trans (aB (a / 2- ·) (Gq a b)))
theorem Xa(c:Nat):decide (0≤Builtin.bitNot (c:Int))=false:=by unfold Builtin.bitNot;simp;lia
theorem W9(c:Nat):Builtin.bitNot (Builtin.bitNot (c:Int))=c:=by unfold Builtin.bitNot;lia
theorem qe(a b:Nat):Builtin.bitOr (a:Int) (b:Int)=((a ||| b:Nat):Int):=by
 have h:=Xa
 have e:=W9
 unfold Builtin.bitOr Builtin.bitAnd
 rw[h,h]
 simp only[e,bJ]
theorem bitAnd_not(a b:Nat):Builtin.bitAnd (a:Int) (Builtin.bitNot (b:Int))=((kO a b:Nat):Int):=by
 have h:=Xa
 have e:=W9
 have h2:a &&& b≤a:=Nat.and_le_left
 unfold Builtin.bitAnd
 rw[h,show decide (0≤(a:Int))=true by simp]
 simp only[e,bJ]
 unfold kO
 exact(Int.ofNat_sub h2).symm
theorem An(a:Nat):Builtin.bitAnd (a:Int) 1=((a % 2:Nat):Int):=by
 unfold Builtin.bitAnd
 rw[show decide (0≤(a:Int))=true by rfl,show decide (0≤(1:Int))=true by rfl]
 refine(?_:(((a:Int).toNat &&& (1:Int).toNat:Nat):Int)=_)
 rw[bJ]
 exact aB _ (Nat.and_two_pow_sub_one_eq_mod a 1)
theorem yq(m t:Nat):(Builtin.bitAnd (Int.fdiv (m:Int) (2 ^ t)) 1==1)=m.testBit t:=by
 have e:Int.fdiv (m:Int) (2 ^ t)=((m / 2 ^ t:Nat):Int):=by
  rw[Int.fdiv_eq_ediv_of_nonneg _ (by exact Int.le_of_lt (Int.pow_pos (by trivial)))]
  rw[Int.natCast_ediv,Int.natCast_pow];rfl
 rw[e,An,Nat.testBit_eq_decide_div_mod_eq]
 rcases Nat.mod_two_eq_zero_or_one (m / 2 ^ t)with q|q<;>rw[q]<;>rfl
noncomputable def cN(f5:Nat→List Nat→Nat)(is:List Nat)(f:List Nat):List Nat:=is.foldl (fun f i=>f.set i (f5 i f)) f
noncomputable def cY(n:Nat):List Nat:=(List.range n).reverse
noncomputable def jm(f5:Nat→List Nat→Nat)(n:Nat)(f:List Nat):List Nat:=cN f5 (cY n) f
noncomputable def iter(f5:Nat→List Nat→Nat)(n:Nat):Nat→List Nat
 |0=>List.replicate n 0
 |t+1=>jm f5 n (iter f5 n t)
theorem kT{f5:Nat→List Nat→Nat}: ∀{is:List Nat}{f:List Nat},(cN f5 is f).length=f.length:=by
 intro l_
 induction l_ with
 |nil=>intro f;exact rfl
 |cons i is ih=>
  intro f
  refine(?_:(cN f5 is (f.set i (f5 i f))).length=_)
  rw[ih,cP]
theorem dC{f5:Nat→List Nat→Nat}: ∀t,(iter f5 n t).length=n:=by
 intro l_
 induction l_ with
 |zero=>exact cM ..
 |succ t ih=>refine(?_:(cN _ _ _).length=n);rw[kT,ih]
noncomputable abbrev cC(f:List Nat)(i b:Nat):Bool:=(f.getD i 0).testBit b
structure BR(f5:Nat→List Nat→Nat)(n:Nat):Prop where
 loc: ∀i b f g,f.length=n→g.length=n→(∀j,cC f j b=cC g j b)→(f5 i f).testBit b=(f5 i g).testBit b
 le: ∀i b f g,f.length=n→g.length=n→(∀j,cC f j b=true→cC g j b=true)→(f5 i f).testBit b=true→(f5 i g).testBit b=true
theorem mV{f:List Nat}{i j b m:Nat}:cC (f.set i m) j b=if j=i∧i<f.length then m.testBit b else cC f j b:=by
 unfold cC
 rw[aM,aM,List.getElem?_set]
 by_cases h:i=j
 .subst h
  by_cases q:i<f.length
  .simp[q]
  .simp[q]
 .have h': ¬j=i:=fun e=>h e.symm
  simp[h,h']
theorem zQ{f5:Nat→List Nat→Nat}(M:BR f5 n){b:Nat}: ∀{is:List Nat}{f g:List Nat},f.length=n→g.length=n→(∀j,cC f j b=cC g j b)→ ∀j,cC (cN f5 is f) j b=cC (cN f5 is g) j b:=by
 intro l_
 induction l_ with
 |nil=>intro f g Y Y h j;exact h j
 |cons i is ih=>
  intro f g hf hg h j
  refine ih (f:=f.set i (f5 i f)) (g:=g.set i (f5 i g)) (by rw[cP,hf]) (by rw[cP,hg]) (fun j=>?_) j
  rw[mV,mV,hf,hg,M.loc i b f g hf hg h,h j]
theorem B1{f5:Nat→List Nat→Nat}(M:BR f5 n){b:Nat}: ∀{is:List Nat}{f g:List Nat},f.length=n→g.length=n→(∀j,cC f j b=true→cC g j b=true)→ ∀j,cC (cN f5 is f) j b=true→cC (cN f5 is g) j b=true:=by
 intro l_
 induction l_ with
 |nil=>intro f g Y Y h j;exact h j
 |cons i is ih=>
  intro f g hf hg h j
  refine ih (f:=f.set i (f5 i f)) (g:=g.set i (f5 i g)) (by rw[cP,hf]) (by rw[cP,hg]) (fun j=>?_) j
  rw[mV,mV,hf,hg]
  by_cases q:j=i∧i<n
  .rw[aF q,aF q];exact M.le i b f g hf hg h
  .rw[az q,az q];exact h j
theorem Ie{f5:Nat→List Nat→Nat}(M:BR f5 n){b:Nat}: ∀t j,cC (iter f5 n t) j b=true→cC (iter f5 n (t+1)) j b=true:=by
 intro l_
 induction l_ with
 |zero=>
  intro j h
  exfalso
  unfold cC iter at h
  rw[aM,List.getElem?_replicate]at h
  split at h<;>simp at h
 |succ t ih=>intro j h;exact B1 M (dC _) (dC _) (ih) j h
theorem conv(n:Nat)(S:Nat→Nat→Bool)(mono: ∀t i,S t i=true→S (t+1) i=true)(N3: ∀t,(∀i,i<n→S t i=S (t+1) i)→ ∀i,i<n→S (t+1) i=S (t+2) i): ∀t,n≤t→ ∀i,i<n→S t i=S (t+1) i:=by
 have go: ∀t,(∀i,i<n→S t i=S (t+1) i)∨t<(List.range n).countP (S (t+1))+0:=by
  intro t
  induction t with
  |zero=>
   by_cases h: ∀i,i<n→S 0 i=S 1 i
   .exact .inl h
   .right
    have: ∃i,i<n∧S 0 i≠S 1 i:=by
     by_cases q: ∃i,i<n∧S 0 i≠S 1 i
     .exact q
     .exact absurd (fun i hi=>by by_cases e:S 0 i=S 1 i;exact e;exact absurd ⟨i,hi,e⟩ q) h
    obtain⟨i,hi,e⟩:=this
    have:S 1 i=true:=by
     induction q:S 1 i using ag with
     |true=>rfl
     |false=>induction q':S 0 i using ag with
      |false=>rw[q,q']at e;exact absurd rfl e
      |true=>rw[mono 0 i q']at q;cases q
    exact List.countP_pos_iff.mpr ⟨i,db.mpr hi,this⟩
  |succ t ih=>
   by_cases h: ∀i,i<n→S (t+1) i=S (t+2) i
   .exact .inl h
   .right
    rcases ih with ih|ih
    .exact absurd (N3 t ih) h
    .have: ∃i,i<n∧S (t+1) i≠S (t+2) i:=by
      by_cases q: ∃i,i<n∧S (t+1) i≠S (t+2) i
      .exact q
      .exact absurd (fun i hi=>by by_cases e:S (t+1) i=S (t+2) i;exact e;exact absurd ⟨i,hi,e⟩ q) h
     obtain⟨i,hi,e⟩:=this
     have h2:S (t+2) i=true∧S (t+1) i=false:=by
      induction q:S (t+2) i using ag with
      |true=>induction q':S (t+1) i using ag with
       |false=>exact⟨rfl,rfl⟩
       |true=>rw[q,q']at e;exact absurd rfl e
      |false=>induction q':S (t+1) i using ag with
       |false=>rw[q,q']at e;exact absurd rfl e
       |true=>rw[mono _ i q']at q;cases q
     have lt: ∀(l:List Nat)(p q:Nat→Bool),(∀x,p x=true→q x=true)→l.countP p≤l.countP q∧(∀i,i∈l→p i=false→q i=true→l.countP p<l.countP q):=by
      intro l p q Yy
      induction l with
      |nil=>exact⟨bn _,fun i hi=>nomatch hi⟩
      |cons x l Yg=>
       obtain⟨a1,a2⟩:=Yg
       rw[List.countP_cons,List.countP_cons]
       have hx:(if p x=true then 1 else 0)≤(if q x=true then 1 else 0):=by
        by_cases hp:p x=true
        .rw[aF hp,aF (Yy x hp)];exact bn _
        .rw[az hp];exact Nat.zero_le _
       constructor
       .exact Nat.add_le_add a1 hx
       .intro i hi h1 h2
        rcases aA.mp hi with rfl|hi
        .rw[h1,h2,az (fun h=>nomatch h),aF rfl];exact Nat.lt_succ_of_le a1
        .exact Nat.add_lt_add_of_lt_of_le (a2 i hi h1 h2) hx
     have:=(lt (List.range n) (S (t+1)) (S (t+2)) (mono (t+1))).2 i (db.mpr hi) h2.2 h2.1
     refine(?_:t+1<(List.range n).countP (S (t+2))+0)
     exact aX ‹_› ‹_›
 have TM: ∀t s,(∀i,i<n→S t i=S (t+1) i)→ ∀i,i<n→S (t+s) i=S (t+s+1) i:=by
  intro t s h
  induction s with
  |zero=>exact h
  |succ s ih=>exact N3 (t+s) ih
 have Zs: ∀i,i<n→S n i=S (n+1) i:=by
  rcases go n with h|h
  .exact h
  .have:=List.countP_le_length (p:=S (n+1)) (l:=List.range n)
   rw[aG]at this
   exact absurd ‹_› (Nat.not_lt_of_le ‹_›)
 intro t ht
 obtain⟨s,rfl⟩:=Nat.exists_eq_add_of_le ht
 exact TM n s Zs
theorem Cs{f g:List Nat}(hl:f.length=g.length)(h: ∀j,j<f.length→ ∀b,cC f j b=cC g j b):f=g:=by
 apply List.ext_getElem?
 intro j
 by_cases q:j<f.length
 .have e:f.getD j 0=g.getD j 0:=Nat.eq_of_testBit_eq fun b=>h j q b
  rw[aM,aM,aq q,aq (hl▸q)]at e
  rw[aq q,aq (hl▸q)]
  exact aB some e
 .rw[bY (by exact cG ‹_›),bY (by lia)]
theorem mN{f5:Nat→List Nat→Nat}(M:BR f5 n): ∀t,n≤t→iter f5 n t=iter f5 n (t+1):=by
 intro t ht
 refine Cs (by rw[dC,dC]) fun j hj b=>?_
 rw[dC]at hj
 refine conv n (fun t j=>cC (iter f5 n t) j b) (fun t j=>Ie M t j) (fun t h i Y=>?_) t ht j hj
 refine zQ M (dC _) (dC _) (fun j=>?_) i
 by_cases q:j<n
 .exact h j q
 .unfold cC
  rw[aM,aM,bY (by rw[dC];exact cG ‹_›),bY (by rw[dC];exact cG ‹_›)]
theorem p8{f5:Nat→List Nat→Nat}{n t:Nat}(h:iter f5 n t=iter f5 n (t+1)): ∀s,iter f5 n (t+s)=iter f5 n t:=by
 intro l_
 induction l_ with
 |zero=>exact rfl
 |succ s ih=>
  refine(?_:jm f5 n (iter f5 n (t+s))=_)
  rw[ih];exact h.symm
open PySem
noncomputable def AG(f:List Nat)(js:List Nat):Nat:=js.foldl (fun a j=>a ||| f.getD j 0) 0
theorem zV(f:List Nat)(b:Nat): ∀(js:List Nat)(a:Nat),(js.foldl (fun a j=>a ||| f.getD j 0) a).testBit b=(a.testBit b||js.any fun j=>cC f j b):=by
 intro l_
 induction l_ with
 |nil=>intro a;simp
 |cons j js ih=>
  intro a
  (refine(ih ..).trans ?_;rewrite[Nat.testBit_or,bO];exact Bool.or_assoc ..)
theorem Cm(f:List Nat)(js:List Nat)(b:Nat):(AG f js).testBit b=js.any fun j=>cC f j b:=by
 (refine(zV ..).trans ?_;rewrite[Nat.zero_testBit];exact Bool.false_or ..)
noncomputable abbrev Kp:Nat:=18446744073709551615
noncomputable def f5(succ:Nat→List Nat)(r w:Nat→Nat)(op:Nat→Bool)(i:Nat)(f:List Nat):Nat:=if op i then Kp else kO (AG f (succ i)) (w i) ||| r i
theorem mB{succ:Nat→List Nat}{r w:Nat→Nat}{op:Nat→Bool}{i b:Nat}{f:List Nat}(h:op i=false):(f5 succ r w op i f).testBit b=(((succ i).any fun j=>cC f j b)&& !(w i).testBit b||(r i).testBit b):=by
 unfold f5
 (rewrite[h,az (fun h=>nomatch h)];refine(Nat.testBit_or ..).trans ?_;rw[Ar,Cm])
theorem oO{succ:Nat→List Nat}{r w:Nat→Nat}{op:Nat→Bool}:BR (f5 succ r w op) n:=by
 constructor
 .intro i b f g Y Y h
  induction q:op i using ag with
  |true=>unfold f5;rw[q,aF rfl,aF rfl]
  |false=>
   (refine(mB q).trans ?_;rw[mB q])
   have:(fun j=>cC f j b)=fun j=>cC g j b:=funext h
   rw[this]
 .intro i b f g Y Y h e
  induction q:op i using ag with
  |true=>unfold f5 at e ⊢;rw[q,aF rfl]at e;rw[q,aF rfl];exact e
  |false=>
   rw[mB q]at e ⊢
   rcases(Bool.or_eq_true _ _).mp e with e|e
   .rw[aU]at e
    obtain⟨j,hj,hb⟩:=cg.mp e.1
    rw[e.2,cg.mpr ⟨j,hj,h j hb⟩];rfl
   ·(rewrite[e];exact Bool.or_true ..)
theorem qN(n:Nat):cY (n+1)=n::cY n:=by
 unfold cY;(rewrite[List.range_succ];refine List.reverse_append.trans ?_);rfl
theorem kV{n i:Nat}:i∈cY n↔i<n:=by exact List.mem_reverse.trans (db)
theorem Ag(a:Nat): ∀b,cY (a+b)=(cY b).map (a+ ·)++cY a:=by
 intro l_
 induction l_ with
 |zero=>exact rfl
 |succ b ih=>
  rw[show a+(b+1)=a+b+1 by rfl,qN,qN,ih];rfl
theorem nT(u:Nat→List Nat→Nat)(f:List Nat): ∀(is js:List Nat),cN u (is++js) f=cN u js (cN u is f):=fun is js=>List.foldl_append ..
theorem zP{u v:Nat→List Nat→Nat}{a:Nat}{g:List Nat}(h: ∀i f,i<a→f.length=a→u i (f++g)=v i f): ∀{is:List Nat}{f:List Nat},f.length=a→(∀i∈is,i<a)→cN u is (f++g)=cN v is f++g:=by
 intro l_
 induction l_ with
 |nil=>intro f Y Y;exact rfl
 |cons i is ih=>
  intro f hf hi
  have Tf:=hi i (.head _)
  refine(?_:cN u is ((f++g).set i (u i (f++g)))=cN v is (f.set i (v i f))++g)
  rw[h i f Tf hf,List.set_append_left _ _ (by lia)]
  exact ih (by exact cP.trans (hf)) fun j hj=>hi j (.tail _ hj)
theorem yy{u v:Nat→List Nat→Nat}{a b:Nat}{f:List Nat}(hf:f.length=a)(h: ∀i g,i<b→g.length=b→u (a+i) (f++g)=v i g): ∀{is:List Nat}{g:List Nat},g.length=b→(∀i∈is,i<b)→cN u (is.map (a+ ·)) (f++g)=f++cN v is g:=by
 intro l_
 induction l_ with
 |nil=>intro g Y Y;exact rfl
 |cons i is ih=>
  intro g hg hi
  have Tf:=hi i (.head _)
  refine(?_:cN u (is.map (a+ ·)) ((f++g).set (a+i) (u (a+i) (f++g)))=f++cN v is (g.set i (v i g)))
  rw[h i g Tf hg,List.set_append_right _ _ (by lia),hf,Nat.add_sub_cancel_left]
  exact ih (by exact cP.trans (hg)) fun j hj=>hi j (.tail _ hj)
theorem nX{u v w:Nat→List Nat→Nat}{a b:Nat}(h1: ∀i f g,i<a→f.length=a→g.length=b→u i (f++g)=v i f)(h2: ∀i f g,i<b→f.length=a→g.length=b→u (a+i) (f++g)=w i g):
 ∀t,iter u (a+b) t=iter v a t++iter w b t
 |0=>List.replicate_append_replicate.symm
 |t+1=>by
  refine(?_:jm u (a+b) (iter u (a+b) t)=jm v a (iter v a t)++jm w b (iter w b t))
  rw[nX h1 h2 t]
  unfold jm
  (rewrite[Ag];refine(nT ..).trans ?_)
  rw[yy (dC t) (fun i g hi hg=>h2 i _ g hi (dC t) hg) (dC t) (fun i hi=>kV.mp hi)]
  refine zP (g:=cN w (cY b) (iter w b t)) (fun i f hi hf=>h1 i f _ hi hf ?_) (dC t) (fun i hi=>kV.mp hi)
  exact kT.trans ((dC ..))
noncomputable def maskOf(p:Nat→Bool):Nat→Nat
 |0=>0
 |b+1=>maskOf p b+(if p b then 2 ^ b else 0)
theorem uO(p:Nat→Bool): ∀B,maskOf p B<2 ^ B:=by
 intro l_
 induction l_ with
 |zero=>exact Nat.one_pos
 |succ b ih=>
  have:=ih
  unfold maskOf
  rw[Nat.pow_succ]
  split<;>lia
theorem nW(p:Nat→Bool)(b:Nat): ∀B,(maskOf p B).testBit b=(decide (b<B)&&p b):=by
 intro l_
 induction l_ with
 |zero=>simp[maskOf]
 |succ c ih=>
  have lt:=uO p c
  unfold maskOf
  by_cases q:p c=true
  .rw[aF q,Nat.add_comm]
   by_cases e:b=c
   .subst e
    (refine(Nat.testBit_two_pow_add_eq ..).trans ?_;rw[ih,q]);simp
   .by_cases l:b<c
    .refine(Nat.testBit_two_pow_add_gt l ..).trans ((ih).trans ?_);simp[l,Nat.lt_succ_of_lt l]
    .have l':c<b:=Nat.lt_of_le_of_ne (Nat.not_lt.mp l) fun z=>e z.symm
     have:2 ^ c+maskOf p c<2 ^ b:=by
      have h1:2 ^ (c+1)≤2 ^ b:=Nat.pow_le_pow_right (by decide) l'
      rw[Nat.pow_succ,Nat.mul_two]at h1
      exact bT (Nat.add_lt_add_left lt _) h1
     refine(Nat.testBit_lt_two_pow this).trans ?_
     have: ¬b<c+1:=by exact Nat.not_lt.mpr ‹_›
     simp[this]
  ·(rewrite[az q,Nat.add_zero];refine(ih).trans ?_)
   by_cases e:b=c
   .subst e
    rw[Bool.not_eq_true]at q
    simp[q]
   .have:(b<c+1)↔b<c:=⟨fun z=>Nat.lt_of_le_of_ne (Nat.le_of_lt_succ z) e,Nat.lt_succ_of_lt⟩
    simp[this]
noncomputable def zA(B:Nat)(succ:Nat→List Nat)(rd wr:Nat→Nat→Bool)(i:Nat)(f:List Nat):Nat:=maskOf (fun b=>rd i b||(((succ i).any fun j=>cC f j b)&& !wr i b)) B
theorem yz{u v:Nat→List Nat→Nat}(I:List Nat→Prop)(n:Nat)(h: ∀i f,i<n→I f→u i f=v i f∧I (f.set i (u i f))): ∀{is:List Nat}{f:List Nat},(∀i∈is,i<n)→I f→cN u is f=cN v is f∧I (cN u is f):=by
 intro l_
 induction l_ with
 |nil=>intro f Y hI;exact⟨rfl,hI⟩
 |cons i is ih=>
  intro f hi hI
  obtain⟨e,h2⟩:=h i f (hi i (.head _)) hI
  have:=ih (f:=f.set i (u i f)) (fun j hj=>hi j (.tail _ hj)) h2
  refine⟨?_,this.2⟩
  refine(?_:cN u is (f.set i (u i f))=cN v is (f.set i (v i f)))
  rw[←e];exact this.1
theorem p9{u v:Nat→List Nat→Nat}(I:List Nat→Prop)(n:Nat)(h: ∀i f,i<n→I f→u i f=v i f∧I (f.set i (u i f)))(h0:I (List.replicate n 0)): ∀t,iter u n t=iter v n t∧I (iter u n t):=by
 intro l_
 induction l_ with
 |zero=>exact⟨rfl,h0⟩
 |succ t ih=>
  obtain⟨e,h1⟩:=ih
  have:=yz I n h (is:=cY n) (fun i hi=>kV.mp hi) h1
  exact⟨by refine(?_:cN u _ _=cN v _ (iter v n t));rw[←e];exact this.1,this.2⟩
theorem FQ{B n:Nat}{succ:Nat→List Nat}{rd wr:Nat→Nat→Bool}{r w:Nat→Nat}(hr: ∀i b,i<n→(r i).testBit b=(decide (b<B)&&rd i b))(hw: ∀i b,i<n→b<B→(w i).testBit b=wr i b):
 ∀t,iter (zA B succ rd wr) n t=iter (f5 succ r w fun Y=>false) n t∧ ∀m∈iter (zA B succ rd wr) n t,m<2 ^ B:=by
 refine p9 (fun f=> ∀m∈f,m<2 ^ B) n (fun i f hi hf=>⟨?_,fun m hm=>?_⟩) fun m hm=>?_
 .refine Nat.eq_of_testBit_eq fun b=>?_
  rw[mB rfl]
  (refine(nW ..).trans ?_;rw[hr i b hi])
  by_cases l:b<B
  .rw[hw i b hi l];simp[l,Bool.or_comm]
  .have:((succ i).any fun j=>cC f j b)=false:=by
    rw[Bool.eq_false_iff]
    intro h
    obtain⟨j,Y,hb⟩:=cg.mp h
    have:=Nat.ge_two_pow_of_testBit hb
    rw[aM]at this
    by_cases q:j<f.length
    .rw[aq q]at this
     have h2:=hf _ (List.getElem_mem q)
     have h3:2 ^ B≤2 ^ b:=Nat.pow_le_pow_right (by decide) (by exact cG ‹_›)
     simp only[Option.getD_some]at this
     lia
    .rw[bY (by exact cG ‹_›)]at this
     have:(2:Nat) ^ b≤0:=this
     have:0<2 ^ b:=Nat.two_pow_pos b
     exact absurd ‹_› (Nat.not_lt_of_le ‹_›)
   rw[this];simp[l]
 .rcases List.mem_or_eq_of_mem_set hm with h|rfl
  .exact hf m h
  .exact uO _ _
 .rw[(List.mem_replicate.mp hm).2];exact Nat.two_pow_pos B
noncomputable def vy(b:List Stmt)(i:Nat):Option Expr:=atS b i none fun s=>if h:s.ctorIdx=3 then Stmt.Return.elim (motive_2:=fun Y=>Option Expr) s h (fun v Y=>v)else none
noncomputable def w6(b:List Stmt)(i:Nat):Option Expr:=atS b i none fun s=>if h:s.ctorIdx=5 then Stmt.Assign.elim (motive_2:=fun Y=>Option Expr) s h (fun Y e Y=>some e)else none
noncomputable def Zo(e:Option Expr)(i:Nat):Option Expr:=e.bind fun e=>if h:e.ctorIdx=24 then Expr.List.elim (motive_1:=fun Y=>Option Expr) e h (fun es Y=>es[i]?)else vL e (fun es=>es[i]?) none
noncomputable def Nd{β:Type}(e:Option Expr)(k:Expr→List Comprehension→Scope→Option β):Option β:=e.bind fun e=>if h:e.ctorIdx=8 then Expr.ListComp.elim (motive_1:=fun Y=>Option β) e h (fun e g s Y=>k e g s)else none
theorem Bi{β:Type}{e:Option Expr}{k:Expr→List Comprehension→Scope→Option β}{r:β}(h:Nd e k=some r): ∃t g s p,e=some (.ListComp t g s p)∧k t g s=some r:=by
 obtain⟨e,rfl,h⟩:=cL h
 exact if g:e.ctorIdx=8 then Expr.ListComp.elim (motive_1:=fun e=> ∀g:e.ctorIdx=8,Expr.ListComp.elim e g (fun e g s Y=>k e g s)=some r→ ∃t g s p,some e=some (.ListComp t g s p)∧k t g s=some r) e g (fun t g s p Y h=>⟨t,g,s,p,rfl,h⟩) g ((dif_pos g).symm.trans h)else nn ((dif_neg g).symm.trans h)
noncomputable def fL:Option Expr→Expr
 |some e=>e
 |none=> .Constant .none 0 default
noncomputable def dS(n:Nat)(cx:Cx)(x:Str)(e:Option Expr)(ts:List MV)(st:St)(acc:List MV)(k:List MV→aH):aH:=
 Nd e fun qV gs sc=>aC gs fun g gs=>a0 gs <| qE (ev n { cx with sc:=sc }) (fH (ev n { cx with sc:=sc }) { cx with sc:=sc } n) x g.ifs qV ts st acc k
theorem fh{P:Params}{f:Addr}{aY:List c8}{own:Bool}{o:aH}(e:d6 fg (rB (KK P) f) aY ts []=st)
 (h: ∀k,bF 60 { cx with sc:=dF (KK P) f,own:=own } (aL (KK P) f) st k=o):cB P 60 cx f aY own ts=o:=by
 subst e;exact h _
theorem ints_map: ∀is:List Int,ints? (is.map .int)=some is
 | []=>rfl
 |i::is=>by refine(?_:(ints? (is.map .int)).map (i:: ·)=_);exact ae (ints_map is) rfl
theorem Cw: ∀{ts:List MV}{is:List Int},ints? ts=some is→ts=is.map .int:=by
 intro l_
 induction l_ with
 |nil=>intro is h;obtain rfl:=b8 h;rfl
 |cons t ts ih=>
  intro is h
  induction t using MV.casesOn with
  |int i=>
   have h':(ints? ts).map (i:: ·)=some is:=h
   induction q:ints? ts using ab with
   |none=>rw[q]at h';exact nn h'
   |some js=>rw[q]at h';obtain rfl:=b8 h';exact ae (ih q) rfl
  |_=>exact nn h
noncomputable def wT(P:Params):Option Expr:=Zo (vy (aL (KK P) 626) 0) 0
noncomputable def oF(P:Params):Cx:={ bx [] []with sc:=dF (KK P) 626,own:=true }
theorem Fs(P:Params)(xs:List MV):cB P 60 (bx [] []) 626 [] true [.list xs]=
 bif decide ((0:Int)≤40)&&aQ xs.length then bif aQ (xs.take (Int.toNat 40)).length then dS 56 (oF P) (S "cell") (wT P) (xs.take (Int.toNat 40)) [] [] (fun us=>some (pJ us 0 0,none))else none else none:=by
 refine fh (st:=[(.v (S "script"),.aw (.list xs))]) (by kernel_rfl) fun k=>?_
 refine(?_:bF 60 (oF P) (aL (KK P) 626) [(.v (S "script"),.aw (.list xs))] k=_)
 kernel_rfl
theorem A3(P:Params)(st:St)(acc:List MV)(k:List MV→aH):dS 56 (oF P) (S "cell") (wT P) [] st acc k=k acc:=by kernel_rfl
theorem HN(P:Params)(c:Int)(ts acc:List MV)(k:List MV→aH):dS 56 (oF P) (S "cell") (wT P) (.int c::ts) [] acc k=dS 56 (oF P) (S "cell") (wT P) ts [(.v (S "cell"),.aw (.int c))] (acc++[.int c]) k:=by kernel_rfl
theorem Fn(P:Params)(c:Int)(t:MV)(ts acc:List MV)(k:List MV→aH):dS 56 (oF P) (S "cell") (wT P) (.int c::ts) [(.v (S "cell"),.aw t)] acc k=dS 56 (oF P) (S "cell") (wT P) ts [(.v (S "cell"),.aw (.int c))] (acc++[.int c]) k:=by kernel_rfl
theorem xI(P:Params)(k:List MV→aH): ∀(is:List Int)(t:MV)(acc:List MV),dS 56 (oF P) (S "cell") (wT P) (is.map .int) [(.v (S "cell"),.aw t)] acc k=k (acc++is.map .int)
 | [],t,acc=>by exact ae dw ((A3 ..).trans (ae (bG ..) rfl))
 |i::is,t,acc=>by exact ae bv ((Fn ..).trans ((xI P k is ..).trans (ae (bE ..) rfl)))
theorem LN{P:Params}(h:aQ is.length=true):cB P 60 (bx [] []) 626 [] true [.list (is.map .int)]=some (pJ ((is.take 40).map .int) 0 0,none):=by
 rw[Fs,←List.map_take,ai,ai,h,show aQ (is.take (Int.toNat 40)).length=true by
  delta aQ at h ⊢
  simp only[a9]at h ⊢
  exact ae List.length_take (af (Nat.min_le_left ..) (by decide))]
 refine(?_:dS 56 (oF P) (S "cell") (wT P) ((is.take 40).map .int) [] [] _=_)
 induction q:is.take 40 using aO with
 |nil=>exact ae dw ((A3 ..))
 |cons i r=>exact ae bv ((HN ..).trans ((xI ..).trans rfl))
noncomputable def AE:ej:=⟨[],true,fun ts K=>aC ts fun a r=>a0 r <| dL a fun xs=>(ints? xs).bind fun is=>bif aQ is.length then K (pJ ((is.take 40).map .int) 0 0) none else none⟩
theorem HM{P:Params}{K:MV→Option MV→aH}{o:MV×Option MV}(h:AE.run ts K=some o):(bZ P 60 (bx [] []) 626 [] true []).run ts K=some o:=by
 obtain⟨a,r,rfl,h⟩:=bL h
 obtain⟨rfl,h⟩:=cm h
 obtain⟨xs,rfl,h⟩:=ju h
 obtain⟨is,e,h⟩:=cL h
 obtain⟨h1,h2⟩:=aJ h
 refine ae (Cw e) ?_
 exact(gL (dflt:=[]) rfl (show fY P 626 [] [] [.list (is.map .int)]=true by kernel_rfl) (LN h1) rfl).trans h2
theorem Q3(hD:Good D):aV D 21 (S "_law_pen") AE:=by
 have h:cS D 21 (.ref 626) (bZ D.w.params 60 (bx [] []) 626 [] true []):=gK hD (by decide) (dV hD bz cX) (by kernel_rfl) (by kernel_rfl) rfl
 exact fk hD h (by kernel_rfl) rfl rfl fun Y Y Y h=>HM h
noncomputable def dJ(P:Params)(be:uh):Cx:={ bx [(S "_law_behind",lX be)] []with sc:=dF (KK P) 666,own:=false }
noncomputable def rR(P:Params):List Stmt:=j1 (aL (KK P) 666) 1
noncomputable def nq(P:Params):List Stmt:=j1 (rR P) 0
noncomputable def lq(P:Params):List Stmt:=j1 (nq P) 1
noncomputable def zn(P:Params):Option Expr:=w6 (lq P) 0
noncomputable abbrev iU(rs rd wr fs:List MV)(B:Nat)(tail:St):St:=(.v (S "rows"),.aw (.list rs))::(.v (S "things"),.aw (.range 0 (B:Int) 1))::(.v (S "read"),.aw (.list rd))::(.v (S "written"),.aw (.list wr))::(.v (S "found"),.own (.list fs))::tail
noncomputable abbrev XF(tu at_:MV)(m th:MV):St:=[(.v (S "turn"),.aw tu),(.v (S "at"),.aw at_),(.v (S "mask"),.aw m),(.v (S "thing"),.aw th)]
noncomputable abbrev my(tu at_:MV)(m th:MV)(s:Slot):St:=[(.v (S "turn"),.aw tu),(.v (S "at"),.aw at_),(.v (S "mask"),.aw m),(.v (S "thing"),.aw th),(.v (S "behind"),s)]
noncomputable abbrev J9(fs:List MV)(th:MV):St:=[(.v (S "found"),.ro (.list fs)),(.v (S "thing"),.aw th)]
theorem Ms(P:Params)(be:uh)(rs rd wr fs:List MV)(B:Nat)(tu:MV)(at_ m th:Int)(k:St→aH):bF 52 (dJ P be) (lq P) (iU rs rd wr fs B (XF tu (.int at_) (.int m) (.int th))) k=
 be rs at_ fun us=>bif aQ us.length then dS 49 (dJ P be) (S "one") (zn P) us (J9 fs (.int th)) [] fun bs=>bF 51 (dJ P be) ((lq P).drop 1) (iU rs rd wr fs B (my tu (.int at_) (.int m) (.int th) (.own (.list bs)))) k else none:=by kernel_rfl
theorem Mr(P:Params)(be:uh)(rs rd wr fs:List MV)(B:Nat)(tu:MV)(at_ m th:Int)(s:Slot)(k:St→aH):bF 52 (dJ P be) (lq P) (iU rs rd wr fs B (my tu (.int at_) (.int m) (.int th) s)) k=
 be rs at_ fun us=>bif aQ us.length then dS 49 (dJ P be) (S "one") (zn P) us (J9 fs (.int th)) [] fun bs=>bif dK (some s)then bF 51 (dJ P be) ((lq P).drop 1) (iU rs rd wr fs B (my tu (.int at_) (.int m) (.int th) (.own (.list bs)))) k else none else none:=by kernel_rfl
theorem Q6(P:Params)(be:uh)(rs rd wr fs:List MV)(B:Nat)(tu:MV)(at_ m th:Int)(bs:List MV)(k:St→aH):bF 51 (dJ P be) ((lq P).drop 1) (iU rs rd wr fs B (my tu (.int at_) (.int m) (.int th) (.own (.list bs)))) k=
 ea (.list rd) (.int at_) fun r=>eN .In (.int th) r fun b=>bif b then(bif qw 1 th then k (iU rs rd wr fs B (my tu (.int at_) (.int (m+1*2 ^ th.toNat)) (.int th) (.own (.list bs))))else none)else
  eN .NotEq (.list bs) (.list []) fun c=>bif c then(ea (.list wr) (.int at_) fun w=>eN .NotIn (.int th) w fun d=>bif d then(bif qw 1 th then k (iU rs rd wr fs B (my tu (.int at_) (.int (m+1*2 ^ th.toNat)) (.int th) (.aw (.list bs))))else none)
   else k (iU rs rd wr fs B (my tu (.int at_) (.int m) (.int th) (.aw (.list bs)))))else k (iU rs rd wr fs B (my tu (.int at_) (.int m) (.int th) (.aw (.list bs)))):=by kernel_rfl
noncomputable def vv(fs:List MV)(th x:Int)(k:Bool→aH):aH:=ea (.list fs) (.int x) fun v=>m5 .RShift v (.int th) fun Y w=>m5 .BitAnd w (.int 1) fun Y z=>eN .Eq z (.int 1) k
theorem Mq(P:Params)(be:uh)(fs:List MV)(th:Int)(k:List MV→aH):dS 49 (dJ P be) (S "one") (zn P) [] (J9 fs (.int th)) [] k=k []:=by kernel_rfl
theorem EE(P:Params)(be:uh)(fs:List MV)(th x:Int)(k:List MV→aH):dS 49 (dJ P be) (S "one") (zn P) [.int x] (J9 fs (.int th)) [] k=
 vv fs th x fun b=>bif b then k [.int x]else k []:=by kernel_rfl
theorem vU(P:Params)(be:uh)(fs:List MV)(th x y:Int)(k:List MV→aH):dS 49 (dJ P be) (S "one") (zn P) [.int x,.int y] (J9 fs (.int th)) [] k=
 vv fs th x fun b=>bif b then(vv fs th y fun b=>bif b then k [.int x,.int y]else k [.int x])else(vv fs th y fun b=>bif b then k [.int y]else k []):=by kernel_rfl
noncomputable abbrev XE(tu at_:MV):St:=[(.v (S "turn"),.aw tu),(.v (S "at"),.aw at_)]
noncomputable abbrev SN(tu at_:MV)(m:MV):St:=[(.v (S "turn"),.aw tu),(.v (S "at"),.aw at_),(.v (S "mask"),.aw m)]
noncomputable abbrev hK(B:Nat):List MV:=(List.range ((B:Int)-0).toNat).map fun i:Nat=>MV.int (0+(i:Int))
theorem Mp(P:Params)(be:uh)(rs rd wr fs:List MV)(B:Nat)(tu at_:MV)(k:St→aH):bF 55 (dJ P be) (nq P) (iU rs rd wr fs B (XE tu at_)) k=
 bif aQ (hK B).length then dN (bF 52 (dJ P be) (lq P)) (S "thing") (hK B) (iU rs rd wr fs B (SN tu at_ (.int 0))) (fun st=>bF 53 (dJ P be) ((nq P).drop 2) st k)else none:=by kernel_rfl
theorem Mo(P:Params)(be:uh)(rs rd wr fs:List MV)(B:Nat)(tu at_ m th:MV)(s:Slot)(k:St→aH):bF 55 (dJ P be) (nq P) (iU rs rd wr fs B (my tu at_ m th s)) k=
 bif aQ (hK B).length then dN (bF 52 (dJ P be) (lq P)) (S "thing") (hK B) (iU rs rd wr fs B (my tu at_ (.int 0) th s)) (fun st=>bF 53 (dJ P be) ((nq P).drop 2) st k)else none:=by kernel_rfl
theorem Q5(P:Params)(be:uh)(rs rd wr fs:List MV)(B:Nat)(tu m th:MV)(at_:Int)(s:Slot)(k:St→aH):bF 53 (dJ P be) ((nq P).drop 2) (iU rs rd wr fs B (my tu (.int at_) m th s)) k=
 bif pC at_ fs.length then k (iU rs rd wr (fs.set at_.toNat m) B (my tu (.int at_) m th s))else none:=by kernel_rfl
noncomputable abbrev rU(n:Nat):List MV:=(List.range ((n:Int)-1- -1).toNat).map fun i:Nat=>MV.int ((n:Int)-1-(i:Int))
theorem Mn(P:Params)(be:uh)(rs rd wr fs:List MV)(B:Nat)(tu:MV)(k:St→aH):bF 57 (dJ P be) (rR P) (iU rs rd wr fs B [(.v (S "turn"),.aw tu)]) k=
 bif eu ((rs.length:Nat)-1:Int)&&eu (-1)&&decide ((-1:Int)= -1)then bif aQ (rU rs.length).length then dN (bF 55 (dJ P be) (nq P)) (S "at") (rU rs.length) (iU rs rd wr fs B [(.v (S "turn"),.aw tu)]) k else none else none:=by kernel_rfl
theorem Mm(P:Params)(be:uh)(rs rd wr fs:List MV)(B:Nat)(tu at_ m th:MV)(s:Slot)(k:St→aH):bF 57 (dJ P be) (rR P) (iU rs rd wr fs B (my tu at_ m th s)) k=
 bif eu ((rs.length:Nat)-1:Int)&&eu (-1)&&decide ((-1:Int)= -1)then bif aQ (rU rs.length).length then dN (bF 55 (dJ P be) (nq P)) (S "at") (rU rs.length) (iU rs rd wr fs B (my tu at_ m th s)) k else none else none:=by kernel_rfl
noncomputable def GH:List Stmt→Stmt
 |s::_=>s
 | []=> .Pass default
noncomputable def X0(b:List Stmt):Pos:=atS b 0 default fun s=>Do s (fun t Y Y=>t.pos) default
noncomputable def XZ(b:List Stmt):Pos:=atS b 0 default fun s=>Do s (fun Y i Y=>oC i (fun f Y Y=>f.pos) default) default
noncomputable def XY(b:List Stmt):Pos:=atS b 0 default fun s=>Do s (fun Y i Y=>i.pos) default
noncomputable abbrev UW(l:List Stmt)(x f:Str)(e:Expr)(b r:List Stmt):List Stmt:= .For (.Name x (X0 l)) (.Call (.Name f (XZ l)) [e] [] (XY l)) b [] (GH l).pos::r
noncomputable def lV(b:List Stmt):Expr:=atS b 0 (.Constant .none 0 default) fun s=>Do s (fun Y i Y=>oC i (fun Y as Y=>as.headD i) i) (.Constant .none 0 default)
theorem yV(b:Int)(k:Bool→MV→aH):ux (S "range") [.int b] k=bif eu b then k false (.range 0 b 1)else none:=by kernel_rfl
theorem et{b:Int}(h: -1000000≤b)(h':b≤1000000):eu b=true:=by unfold eu;simp only[aU,a9];exact⟨Int.le_trans (by decide) h,Int.lt_of_le_of_lt h' (by decide)⟩
theorem bo(h:n≤1000000):aQ n=true:=by unfold aQ;simpa using h
theorem kX{l:List Stmt}{b r:List Stmt}{k:St→aH}{N:Nat}
 (hs:l=UW l x (S "range") e b r) (hx:decide (cx.sc.names.lookup x=some .local∨cx.sc.names.lookup x=some .cell)=true)
 (hr:cx.sc.names.lookup (S "range")=some .globalImplicit) (hf:cx.fn (S "range")=none) (jI:er [e]=true)
 (hp: ∀K:MV→St→aH,peek (ev n cx) cx e st K=K (.int (N:Int)) st) (hN:N≤1000):
 bF (n+3) cx l st k=dN (bF (n+1) cx b) x ((List.range N).map fun i:Nat=>MV.int (i:Int)) st (fun st=>bF (n+2) cx r st k):=by
 have hL:((List.range ((N:Int)-0).toNat).map fun i:Nat=>MV.int (0+(i:Int)))=(List.range N).map fun i:Nat=>MV.int (i:Int):=by
  rw[show((N:Int)-0).toNat=N by rfl]
  exact List.map_congr_left fun i Y=>aB MV.int (Int.zero_add _)
 obtain⟨p,p1,p2,p3,rfl⟩: ∃p p1 p2 p3,l= .For (.Name x p) (.Call (.Name (S "range") p1) [e] [] p2) b [] p3::r:=⟨_,_,_,_,hs⟩
 .clear hs
  show(bif hU (.Call (.Name (S "range") p1) [e] [] p2)&&decide (cx.sc.names.lookup x=some .local∨cx.sc.names.lookup x=some .cell)then ev (n+1) cx (.Call (.Name (S "range") p1) [e] [] p2) st fun Y it st=>(d7 it).bind fun ts=>bif aQ ts.length then dN (bF (n+1) cx b) x ts st (fun st=>bF (n+2) cx r st k)else none else none)=_
  refine ae hx ?_
  show(ev (n+1) cx (.Call (.Name (S "range") p1) [e] [] p2) st fun Y it st=>(d7 it).bind fun ts=>bif aQ ts.length then dN (bF (n+1) cx b) x ts st (fun st=>bF (n+2) cx r st k)else none)=_
  refine(?_:vT (ev n cx) cx (.Name (S "range") p1) [e] p2 st _=_)
  unfold vT
  refine ae jI (ae (show decide ([e].length<20)=true from rfl) ?_)
  simp only[Bool.and_self,ao]
  refine(?_:(bif decide (cx.sc.names.lookup (S "range")=some .globalImplicit)then km (ev n cx) cx (S "range") [e] st _ else _)=_)
  refine ae (aW hr) ?_
  refine(?_:km (ev n cx) cx (S "range") [e] st _=_)
  unfold km
  rw[hf]
  dsimp only
  rw[show decide (S "range"∈c9)=true by decide]
  simp only[Bool.not_true,bH]
  refine ae (show decide ([e].length=1)=true from rfl) ?_
  dsimp only[cond_true,aC]
  refine(hp ..).trans ((yV ..).trans (ae (et (by exact Int.natCast_nonneg _) (by lia)) ?_))
  simp only[ao]
  have:d7 (.range 0 (N:Int) 1)=some ((List.range N).map fun i:Nat=>MV.int (i:Int)):=by exact ft hL rfl
  refine(aB (Option.bind · _) this).trans ?_
  refine(?_:(bif aQ (((List.range N).map fun i:Nat=>MV.int (i:Int)).length)then _ else none)=_)
  exact ae (ai ..) (ae aG (ae (bo (by exact af ‹_› (aa rfl))) rfl))
theorem CJ{l:List Stmt}{k:St→aH}(h:l.isEmpty=false):bF (n+1) cx l st k=ex n cx (GH l) st fun st=>bF n cx (l.drop 1) st k:=by
 induction l using aO with
 |nil=>exact Gy h
 |cons s r=>rfl
theorem Ml(P:Params)(be:uh)(rs rd wr:List MV)(B:Nat)(k:St→aH):ex 59 (dJ P be) (GH (aL (KK P) 666)) [(.v (S "rows"),.aw (.list rs)),(.v (S "things"),.aw (.range 0 (B:Int) 1)),(.v (S "read"),.aw (.list rd)),(.v (S "written"),.aw (.list wr))] k=
 m5 .Mult (.list [.int 0]) (.int (rs.length:Nat)) fun o t=>k [(.v (S "rows"),.aw (.list rs)),(.v (S "things"),.aw (.range 0 (B:Int) 1)),(.v (S "read"),.aw (.list rd)),(.v (S "written"),.aw (.list wr)),(.v (S "found"),fK o t)]:=by kernel_rfl
theorem Mk(P:Params)(be:uh)(rs rd wr fs:List MV)(B:Nat)(k:MV→St→aH):peek (ev 56 (dJ P be)) (dJ P be) (lV ((aL (KK P) 666).drop 1)) (iU rs rd wr fs B []) k=k (.int (((rs.length+1:Nat):Nat):Int)) (iU rs rd wr fs B []):=by kernel_rfl
theorem Gc(P:Params)(be:uh)(rs rd wr:List MV)(B:Nat)(k:St→aH)(hn:rs.length≤100):bF 60 (dJ P be) (aL (KK P) 666) [(.v (S "rows"),.aw (.list rs)),(.v (S "things"),.aw (.range 0 (B:Int) 1)),(.v (S "read"),.aw (.list rd)),(.v (S "written"),.aw (.list wr))] k=
 dN (bF 57 (dJ P be) (rR P)) (S "turn") ((List.range (rs.length+1)).map fun i:Nat=>MV.int (i:Int)) (iU rs rd wr (List.replicate rs.length (.int 0)) B []) (fun st=>bF 58 (dJ P be) ((aL (KK P) 666).drop 2) st k):=by
 refine(CJ (by kernel_rfl)).trans ((Ml ..).trans ?_)
 refine(?_:(bif decide (0≤((rs.length:Nat):Int))&&decide (((rs.length:Nat):Int)≤1000000)then bF 59 (dJ P be) ((aL (KK P) 666).drop 1) (iU rs rd wr (List.replicate ((rs.length:Nat):Int).toNat (.int 0)) B []) k else none)=_)
 rw[show(decide (0≤((rs.length:Nat):Int))&&decide (((rs.length:Nat):Int)≤1000000))=true by simp;exact Int.ofNat_le.mpr (af ‹_› (by decide)),ao,bJ]
 exact kX (n:=56) (e:=lV ((aL (KK P) 666).drop 1)) (b:=rR P) (r:=(aL (KK P) 666).drop 2) (by kernel_rfl) (by kernel_rfl) (by kernel_rfl) (by kernel_rfl) (by kernel_rfl) (fun K=>Mk P be rs rd wr _ B K) (by exact aX ‹_› (aa rfl))
theorem Iw(P:Params)(be:uh)(rs rd wr fs:List MV)(B:Nat)(tu at_ m th:MV)(s:Slot)(k:St→aH):bF 58 (dJ P be) ((aL (KK P) 666).drop 2) (iU rs rd wr fs B (my tu at_ m th s)) k=
 match ci (iU rs rd wr fs B (my tu at_ m th s))with|none=>some (.list fs,none)|some t=>some (.list fs,some t):=by
 induction s using Slot.casesOn<;>kernel_rfl
noncomputable abbrev nl(ns:List Nat):List MV:=ns.map fun m:Nat=>MV.int (m:Int)
structure rX(be:uh)(rs rd wr:List MV)(n:Nat)(succ:Nat→List Nat)(jG jF:Nat→List Int):Prop where
 l1:rs.length=n
 l2:rd.length=n
 l3:wr.length=n
 le:n≤100
 pos:0<n
 be: ∀i,i<n→ ∀k,be rs (i:Int) k=k (nl (succ i))
 sl: ∀i,i<n→succ i=[]∨(∃x,succ i=[x]∧x<n)∨(∃x y,succ i=[x,y]∧x<n∧y<n)
 rd: ∀i,i<n→rd[i]? =some (il (jG i))
 wr: ∀i,i<n→wr[i]? =some (il (jF i))
theorem dP{k:MV→aH}(hl:ts.length≤1000)(h:ts[i]? =some t):ea (.list ts) (.int (i:Int)) k=k t:=by
 have gG:i<ts.length:=(a8.mp h).1
 have x1:pC (i:Int) ts.length=true:=by delta pC;simp only[aU,a9];exact Nm (af ‹_› (by decide)) ‹_›
 refine(?_:(bif pC (i:Int) ts.length then(ts[((i:Nat):Int).toNat]?).bind k else none)=_)
 exact ae x1 (ae (bJ ..) (ae h rfl))
theorem ik{f:List Nat}{n x th:Nat}{k:Bool→aH}(hf:f.length=n)(hn:n≤100)(hx:x<n):vv (nl f) (th:Int) (x:Int) k=k (cC f x th):=by
 have e:(nl f)[x]? =some (MV.int ((f.getD x 0:Nat):Int)):=by
  refine(bA).trans (ae (aq (hf▸hx)) (ae (aM) (ae (aq (hf▸hx)) ?_)));rfl
 refine(dP (by rw[ai,hf];exact af hn (by decide)) e).trans ?_
 refine(?_:(bif decide ((0:Int)≤(th:Int))then eN .Eq (.int (Builtin.bitAnd (((f.getD x 0:Nat):Int).fdiv (2 ^ ((th:Nat):Int).toNat)) 1)) (.int 1) k else none)=_)
 rw[show decide ((0:Int)≤(th:Int))=true by rfl,bJ]
 refine(?_:k (Builtin.bitAnd (((f.getD x 0:Nat):Int).fdiv (2 ^ th)) 1==1)=_)
 exact ae (yq ..) rfl
section
variable{P:Params}{be:uh}{rs rd wr:List MV}{n B:Nat}{succ:Nat→List Nat}{jG jF:Nat→List Int}
noncomputable def nF(succ:Nat→List Nat)(jG jF:Nat→List Int)(i:Nat)(f:List Nat)(b:Nat):Bool:=decide ((b:Int)∈jG i)||(((succ i).any fun j=>cC f j b)&& !decide ((b:Int)∈jF i))
theorem JD{i:Int}{l:List Int}{k:Bool→aH}:eN .In (.int i) (il l) k=k (decide (i∈l)):=by
 refine(?_:((ints? (l.map .int)).map (fun js=>decide (i∈js))).bind k=_)
 exact ae (ints_map ..) rfl
theorem xN{i:Int}{l:List Int}{k:Bool→aH}:eN .NotIn (.int i) (il l) k=k (!decide (i∈l)):=by
 refine(?_:((ints? (l.map .int)).map (fun js=>decide (i∈js))).bind (fun b=>k (!b))=_)
 exact ae (ints_map ..) rfl
theorem zz{bs:List MV}{k:Bool→aH}:eN .NotEq (.list bs) (.list []) k=k (!bs.isEmpty):=by
 induction bs using aO<;>rfl
theorem Gd(X:rX be rs rd wr n succ jG jF){f:List Nat}{i th:Nat}(hf:f.length=n)(hi:i<n): ∃bs:List MV,(!bs.isEmpty)=((succ i).any fun j=>cC f j th)∧ ∀k,dS 49 (dJ P be) (S "one") (zn P) (nl (succ i)) (J9 (nl f) (.int (th:Int))) [] k=k bs:=by
 rcases X.sl i hi with e|⟨x,e,hx⟩|⟨x,y,e,hx,hy⟩
 .exact ae e (⟨[],rfl,fun k=>Mq P be (nl f) th k⟩)
 .refine ae e ?_
  induction q:cC f x th using ag with
  |true=>exact⟨[.int x],by simp only[bO,List.any_nil,q];rfl,fun k=>by exact ae (show nl [x]=[.int (x:Int)]from rfl) ((EE ..).trans ((ik hf X.le hx).trans (ae q rfl)))⟩
  |false=>exact⟨[],by simp only[bO,List.any_nil,q];rfl,fun k=>by exact ae (show nl [x]=[.int (x:Int)]from rfl) ((EE ..).trans ((ik hf X.le hx).trans (ae q rfl)))⟩
 .refine ae e ?_
  induction q:cC f x th using ag<;>induction q':cC f y th using ag
  .exact⟨[],by simp only[bO,List.any_nil,q,q'];rfl,fun k=>by refine ae (show nl [x,y]=[.int (x:Int),.int (y:Int)]from rfl) ((vU ..).trans ((ik hf X.le hx).trans (ae q ?_)));refine(?_:vv _ _ _ _=_);exact(ik hf X.le hy).trans (ae q' rfl)⟩
  .exact⟨[.int y],by simp only[bO,List.any_nil,q,q'];rfl,fun k=>by refine ae (show nl [x,y]=[.int (x:Int),.int (y:Int)]from rfl) ((vU ..).trans ((ik hf X.le hx).trans (ae q ?_)));refine(?_:vv _ _ _ _=_);exact(ik hf X.le hy).trans (ae q' rfl)⟩
  .exact⟨[.int x],by simp only[bO,List.any_nil,q,q'];rfl,fun k=>by refine ae (show nl [x,y]=[.int (x:Int),.int (y:Int)]from rfl) ((vU ..).trans ((ik hf X.le hx).trans (ae q ?_)));refine(?_:vv _ _ _ _=_);exact(ik hf X.le hy).trans (ae q' rfl)⟩
  .exact⟨[.int x,.int y],by simp only[bO,List.any_nil,q,q'];rfl,fun k=>by refine ae (show nl [x,y]=[.int (x:Int),.int (y:Int)]from rfl) ((vU ..).trans ((ik hf X.le hx).trans (ae q ?_)));refine(?_:vv _ _ _ _=_);exact(ik hf X.le hy).trans (ae q' rfl)⟩
theorem CN(X:rX be rs rd wr n succ jG jF){f:List Nat}{i th:Nat}{tu:MV}(hf:f.length=n)(hi:i<n)(S8:th≤64):
 ∃bs sl,dK (some sl)=true∧(∀k,bF 51 (dJ P be) ((lq P).drop 1) (iU rs rd wr (nl f) B (my tu (.int (i:Int)) (.int (maskOf (nF succ jG jF i f) th:Nat)) (.int (th:Int)) (.own (.list bs)))) k=
   k (iU rs rd wr (nl f) B (my tu (.int (i:Int)) (.int (maskOf (nF succ jG jF i f) (th+1):Nat)) (.int (th:Int)) sl)))∧(∀k,dS 49 (dJ P be) (S "one") (zn P) (nl (succ i)) (J9 (nl f) (.int (th:Int))) [] k=k bs):=by
 obtain⟨bs,h1,h2⟩:=Gd (P:=P) X (th:=th) hf hi
 have x1:qw 1 (th:Int)=true:=by delta qw iI;simp only[aU,a9];exact Xq ‹_›
 have x2:((maskOf (nF succ jG jF i f) th:Nat):Int)+1*2 ^ ((th:Nat):Int).toNat=((maskOf (nF succ jG jF i f) th+2 ^ th:Nat):Int):=by
  exact ae (bJ ..) (ae (Int.natCast_add ..) (ae (Int.natCast_pow ..) (ae (Int.one_mul ..) rfl)))
 have key: ∀k,bF 51 (dJ P be) ((lq P).drop 1) (iU rs rd wr (nl f) B (my tu (.int (i:Int)) (.int (maskOf (nF succ jG jF i f) th:Nat)) (.int (th:Int)) (.own (.list bs)))) k=_:=fun k=>by
  rw[Q6,dP (by rw[X.l2];have:=X.le;exact af ‹_› (aa rfl)) (X.rd i hi),JD,zz,dP (by rw[X.l3];have:=X.le;exact af ‹_› (aa rfl)) (X.wr i hi),xN,x1,x2,h1]
 have un:maskOf (nF succ jG jF i f) (th+1)=maskOf (nF succ jG jF i f) th+(if nF succ jG jF i f th then 2 ^ th else 0):=rfl
 induction a:decide ((th:Int)∈jG i)using ag with
 |true=>
  refine⟨bs,.own (.list bs),rfl,fun k=>?_,h2⟩
  rw[key,a,un,show nF succ jG jF i f th=true by delta nF;rw[a];rfl];rfl
 |false=>
  refine⟨bs,.aw (.list bs),rfl,fun k=>?_,h2⟩
  have e:nF succ jG jF i f th=(((succ i).any fun j=>cC f j th)&& !decide ((th:Int)∈jF i)):=by delta nF;exact ae a rfl
  refine(key ..).trans (ae a (ae un (ae e ?_)))
  cases (succ i).any fun j=>cC f j th<;>cases decide ((th:Int)∈jF i)<;>rfl
noncomputable abbrev jL(B:Nat)(succ:Nat→List Nat)(jG jF:Nat→List Int):Nat→List Nat→Nat:=zA B succ (fun i b=>decide ((b:Int)∈jG i)) fun i b=>decide ((b:Int)∈jF i)
theorem mL{B i:Nat}(h:((List.range B).map fun i:Nat=>MV.int (i:Int))[i]? =some t):t= .int (i:Int)∧i<B:=by
 rw[bA]at h
 induction q:(List.range B)[i]? using ab with
 |none=>rw[q]at h;exact nn h
 |some j=>
  rw[q]at h
  obtain⟨h1,h2⟩:=a8.mp q
  rw[aG]at h1
  rw[List.getElem_range]at h2
  clear q;subst h2
  exact⟨by obtain rfl:=b8 h;rfl,h1⟩
theorem je:hK B=(List.range B).map fun i:Nat=>MV.int (i:Int):=by
 delta hK
 rw[show((B:Int)-0).toNat=B by rfl]
 exact List.map_congr_left fun i Y=>aB MV.int (Int.zero_add _)
theorem yf(X:rX be rs rd wr n succ jG jF){f:List Nat}{tu:MV}(hf:f.length=n)(hi:i<n)(hB:B≤64)(GZ:0<B)
 (gE:st=iU rs rd wr (nl f) B (SN tu (.int (i:Int)) (.int 0))∨ ∃th s,dK (some s)=true∧st=iU rs rd wr (nl f) B (my tu (.int (i:Int)) (.int 0) th s)):
 ∃th s,dK (some s)=true∧ ∀K,dN (bF 52 (dJ P be) (lq P)) (S "thing") (hK B) st K=K (iU rs rd wr (nl f) B (my tu (.int (i:Int)) (.int (jL B succ jG jF i f:Nat)) th s)):=by
 obtain⟨bB,h1,h2⟩:=eF (B:=bF 52 (dJ P be) (lq P)) (x:=S "thing") (fun j st=>(j=0∧st=iU rs rd wr (nl f) B (SN tu (.int (i:Int)) (.int 0)))∨ ∃th s,dK (some s)=true∧st=iU rs rd wr (nl f) B (my tu (.int (i:Int)) (.int (maskOf (nF succ jG jF i f) j:Nat)) th s))
  (ts:=hK B) (j:=0) (st:=st) (fun th t st ht hI=>by
    rw[je]at ht
    obtain⟨rfl,S8⟩:=mL ht
    clear ht;obtain⟨bs,sl,q1,q2,q3⟩:=CN (P:=P) (B:=B) (tu:=tu) X (th:=th) hf hi (ca (bT S8 hB))
    rw[aT]at hI ⊢
    clear S8;rcases hI with⟨rfl,rfl⟩|⟨Wf,s,hs,rfl⟩
    .refine⟨rfl,iU rs rd wr (nl f) B (my tu (.int (i:Int)) (.int (maskOf (nF succ jG jF i f) (0+1):Nat)) (.int ((0:Nat):Int)) sl),.inr ⟨_,sl,q1,rfl⟩,fun k=>?_⟩
     exact(Ms ..).trans ((X.be i hi ..).trans (ae (bo (by rw[ai];rcases X.sl i hi with e|⟨x,e,_⟩|⟨x,y,e,_⟩<;>rw[e]<;>simp)) ((ao ..).trans ((q3 ..).trans ((q2 ..))))))
    .refine⟨rfl,iU rs rd wr (nl f) B (my tu (.int (i:Int)) (.int (maskOf (nF succ jG jF i f) (th+1):Nat)) (.int (th:Int)) sl),.inr ⟨_,sl,q1,rfl⟩,fun k=>?_⟩
     exact(Mr ..).trans ((X.be i hi ..).trans (ae (bo (by rw[ai];rcases X.sl i hi with e|⟨x,e,_⟩|⟨x,y,e,_⟩<;>rw[e]<;>simp)) ((ao ..).trans ((q3 ..).trans (ae hs ((ao ..).trans ((q2 ..)))))))))
  (by rcases gE with h|⟨th,s,hs,h⟩
      .exact .inl ⟨rfl,h⟩
      .exact .inr ⟨th,s,hs,h⟩)
 rw[je,ai,aG,aT]at h1
 rcases h1 with⟨h,_⟩|⟨th,s,hs,rfl⟩
 .exact absurd h (Nat.ne_of_gt GZ)
 .exact⟨th,s,hs,h2⟩
theorem oW:rU n=nl (cY n):=by
 delta rU cY nl
 rw[show((n:Int)-1- -1).toNat=n by exact Xx]
 apply List.ext_getElem (by simp)
 intro i h1 h2
 rw[ai,aG]at h1
 refine(List.getElem_map ..).trans (ae (List.getElem_map ..) (ae (List.getElem_range ..) (ae (List.getElem_reverse ..) (ae (List.getElem_range ..) (ae aG ?_)))))
 exact aB MV.int (by exact Xy ‹_›)
theorem uG{j:Nat}(h:j<n):(cY n).take (j+1)=(cY n).take j++[n-1-j]∧(cY n)[j]? =some (n-1-j):=by
 have hl:(cY n).length=n:=by exact List.length_reverse.trans (aG)
 have e:(cY n)[j]? =some (n-1-j):=by
  refine(aq (hl.symm▸h)).trans ?_
  exact ae (List.getElem_reverse ..) (ae (List.getElem_range ..) (ae aG rfl))
 exact⟨by rw[List.take_add_one,e];rfl,e⟩
theorem yd(X:rX be rs rd wr n succ jG jF){f:List Nat}{tu:MV}(hf:f.length=n)(hB:B≤64)(GZ:0<B)
 (gE:st=iU rs rd wr (nl f) B [(.v (S "turn"),.aw tu)]∨ ∃at_ m th s,dK (some s)=true∧st=iU rs rd wr (nl f) B (my tu at_ m th s)):
 ∃at_ m th s,dK (some s)=true∧ ∀k,bF 57 (dJ P be) (rR P) st k=k (iU rs rd wr (nl (jm (jL B succ jG jF) n f)) B (my tu at_ m th s)):=by
 have le:=X.le
 have l1:=X.l1
 have pos:=X.pos
 obtain⟨bB,h1,h2⟩:=eF (B:=bF 55 (dJ P be) (nq P)) (x:=S "at") (fun j st=>(j=0∧st=iU rs rd wr (nl f) B [(.v (S "turn"),.aw tu)])∨ ∃at_ m th s,dK (some s)=true∧st=iU rs rd wr (nl (cN (jL B succ jG jF) ((cY n).take j) f)) B (my tu at_ m th s))
  (ts:=nl (cY n)) (j:=0) (st:=st) (fun j t st ht hI=>by
    rw[aT]at hI ⊢
    have hj:j<n:=by
     have:=(a8.mp ht).1
     rw[ai]at this
     delta cY at this
     rw[List.length_reverse,aG]at this
     exact this
    clear gE;obtain⟨d1,d2⟩:=uG hj
    have MY:t= .int ((n-1-j:Nat):Int):=by
     rw[bA,d2]at ht;obtain rfl:=b8 ht;rfl
    clear ht d2;subst MY
    have hi:n-1-j<n:=by exact Wc ‹_›
    generalize hg:cN (jL B succ jG jF) ((cY n).take j) f=g at*
    have Tg:g.length=n:=by exact ft hg (kT.trans (hf))
    have Op:cN (jL B succ jG jF) ((cY n).take (j+1)) f=g.set (n-1-j) (jL B succ jG jF (n-1-j) g):=by
     exact ae d1 ((nT ..).trans (ae hg rfl))
    have fin: ∀{th:MV}{s:Slot}{k:St→aH},bF 53 (dJ P be) ((nq P).drop 2) (iU rs rd wr (nl g) B (my tu (.int ((n-1-j:Nat):Int)) (.int (jL B succ jG jF (n-1-j) g:Nat)) th s)) k=k (iU rs rd wr (nl (cN (jL B succ jG jF) ((cY n).take (j+1)) f)) B (my tu (.int ((n-1-j:Nat):Int)) (.int (jL B succ jG jF (n-1-j) g:Nat)) th s)):=fun{th s k}=>by
     rw[Q5,ai,Tg,show pC ((n-1-j:Nat):Int) n=true by delta pC;simp only[aU,a9];exact Nm (af ‹_› (by decide)) ‹_›,ao,bJ,Op,←List.map_set]
    have z:aQ (hK B).length=true:=by exact ae je (ae (ai ..) (ae aG (bo (by exact af ‹_› (aa rfl)))))
    clear hf hj d1 Op;rcases hI with⟨rfl,rfl⟩|⟨K',m0,Wf,s0,S9,rfl⟩
    .have YY:g=f:=hg.symm
     clear hg;subst YY
     obtain⟨th,s,hs,hb⟩:=yf (P:=P) (B:=B) (tu:=tu) X (i:=n-1-0) Tg hi hB GZ (.inl rfl)
     refine⟨rfl,iU rs rd wr (nl (cN (jL B succ jG jF) ((cY n).take (0+1)) g)) B (my tu (.int ((n-1-0:Nat):Int)) (.int (jL B succ jG jF (n-1-0) g:Nat)) th s),.inr ⟨_,_,th,s,hs,rfl⟩,fun k=>?_⟩
     exact(Mp ..).trans (ae z ((ao ..).trans ((hb ..).trans (fin))))
    .obtain⟨th,s,hs,hb⟩:=yf (P:=P) (B:=B) (tu:=tu) X (i:=n-1-j) Tg hi hB GZ (.inr ⟨Wf,s0,S9,rfl⟩)
     refine⟨rfl,iU rs rd wr (nl (cN (jL B succ jG jF) ((cY n).take (j+1)) f)) B (my tu (.int ((n-1-j:Nat):Int)) (.int (jL B succ jG jF (n-1-j) g:Nat)) th s),.inr ⟨_,_,th,s,hs,rfl⟩,fun k=>?_⟩
     exact(Mo ..).trans (ae z ((ao ..).trans ((hb ..).trans (fin)))))
  (by rcases gE with h|⟨a,m,th,s,hs,h⟩
      .exact .inl ⟨rfl,h⟩
      .exact .inr ⟨a,m,th,s,hs,h⟩)
 have gh:(nl (cY n)).length=n:=by exact(ai ..).trans (List.length_reverse.trans (aG))
 rw[aT,gh,List.take_of_length_le (by exact ae List.length_reverse (ae aG (bn _)))]at h1
 have z:aQ (rU rs.length).length=true:=by exact ae oW (ae l1 (ae gh (bo (by exact af ‹_› (aa rfl)))))
 have r1:(eu ((rs.length:Nat)-1:Int)&&eu (-1)&&decide ((-1:Int)= -1))=true:=by
  exact ae (et (by rw[l1];exact Int.le_trans (by decide:(-1000000:Int)≤0) (Int.sub_nonneg_of_le (Int.ofNat_le.mpr pos))) (by rw[l1];exact Int.le_trans (Int.sub_le_self _ (by decide)) (Int.ofNat_le.mpr (af le (by decide))))) rfl
 rcases h1 with⟨h,_⟩|⟨at_,m,th,s,hs,rfl⟩
 .exact absurd h (Nat.ne_of_gt pos)
 .refine⟨at_,m,th,s,hs,fun k=>?_⟩
  rcases gE with rfl|⟨a,m,th,s,_,rfl⟩
  .exact(Mn ..).trans (ae r1 (ae z ((ao ..).trans ((ao ..).trans (ae oW (ae l1 ((h2 ..).trans rfl)))))))
  .exact(Mm ..).trans (ae r1 (ae z ((ao ..).trans ((ao ..).trans (ae oW (ae l1 ((h2 ..).trans rfl)))))))
theorem Mj(X:rX be rs rd wr n succ jG jF)(hB:B≤64)(GZ:0<B):cB P 60 (bx [(S "_law_behind",lX be)] []) 666 [] false [.list rs,.range 0 (B:Int) 1,.list rd,.list wr]=some (.list (nl (iter (jL B succ jG jF) n (n+1))),none):=by
 have le:=X.le
 have l1:=X.l1
 refine fh (st:=[(.v (S "rows"),.aw (.list rs)),(.v (S "things"),.aw (.range 0 (B:Int) 1)),(.v (S "read"),.aw (.list rd)),(.v (S "written"),.aw (.list wr))]) (by kernel_rfl) fun k=>?_
 refine(Gc P be rs rd wr B k (l1▸le)).trans ?_
 obtain⟨bB,h1,h2⟩:=eF (B:=bF 57 (dJ P be) (rR P)) (x:=S "turn") (fun j st=>(j=0∧st=iU rs rd wr (nl (List.replicate n 0)) B [])∨ ∃tu at_ m th s,dK (some s)=true∧st=iU rs rd wr (nl (iter (jL B succ jG jF) n j)) B (my tu at_ m th s))
  (ts:=(List.range (rs.length+1)).map fun i:Nat=>MV.int (i:Int)) (j:=0) (st:=iU rs rd wr (List.replicate rs.length (.int 0)) B []) (fun j t st ht hI=>by
    rw[aT]at hI ⊢
    clear ht;rcases hI with⟨rfl,rfl⟩|⟨tu,at_,m,th,s,hs,rfl⟩
    .obtain⟨a,m,th,s,hs,e⟩:=yd (P:=P) (B:=B) (tu:=t) X (f:=List.replicate n 0) (cM ..) hB GZ (.inl rfl)
     exact⟨rfl,iU rs rd wr (nl (iter (jL B succ jG jF) n (0+1))) B (my t a m th s),.inr ⟨t,a,m,th,s,hs,rfl⟩,e⟩
    .obtain⟨a,m,th,s,hs,e⟩:=yd (P:=P) (B:=B) (tu:=t) X (dC j) hB GZ (.inr ⟨at_,m,th,s,hs,rfl⟩)
     exact⟨rfl,iU rs rd wr (nl (iter (jL B succ jG jF) n (j+1))) B (my t a m th s),.inr ⟨t,a,m,th,s,hs,rfl⟩,e⟩)
  (.inl ⟨rfl,by refine ae l1 ?_;simp only[nl,List.map_replicate];rfl⟩)
 refine(h2 ..).trans ?_
 rw[ai,aG,l1,aT]at h1
 clear h2;rcases h1 with⟨h,_⟩|⟨tu,at_,m,th,s,hs,rfl⟩
 .exact absurd h (Nat.succ_ne_zero _)
 .refine(Iw ..).trans ?_
  induction s using Slot.casesOn<;>first|rfl|exact ew hs
end
noncomputable def vC(P:Params):U4 (List MV):=K4 f9 P (bx [(S "_law_behind",lX (I7 P))] []) 666
theorem JS(hD:Good D):aV D 22 (S "_law_due") (s4 f9 (vC D.w.params)):=
 f4 hD f9 (by decide) (dV hD (ay (F7 hD) (by decide) bz) cX) (by kernel_rfl) (by kernel_rfl) (by kernel_rfl) (by kernel_rfl)
theorem Bg{P:Params}{rs rd wr:List MV}{n B:Nat}{succ:Nat→List Nat}{jG jF:Nat→List Int}(X:rX (I7 P) rs rd wr n succ jG jF)(hB:B≤64)(GZ:0<B):
 ∀k,vC P (.list rs) (.range 0 (B:Int) 1) (.list rd) (.list wr) k=k (nl (iter (jL B succ jG jF) n (n+1))):=fun k=>cZ (T:=f9) (Mj X hB GZ) k
noncomputable def j2(P:Params)(du:U4 (List MV)):Cx:={ bx [(S "_law_due",s4 f9 du)] []with sc:=dF (KK P) 671,own:=false }
noncomputable def Wy(b:List Stmt)(i:Nat):Option Expr:=atS b i none fun s=>if h:s.ctorIdx=12 then Stmt.If.elim (motive_2:=fun Y=>Option Expr) s h (fun t Y Y Y=>kj t (fun l Y Y=>some l) none)else none
noncomputable def gu(e:Option Expr):Option Expr:=Nd e fun e Y Y=>some e
noncomputable def tH(e:Option Expr):Scope:=(Nd e fun Y Y s=>some s).getD ⟨.function,[],false,false,[]⟩
noncomputable def Oj(e:Option Expr):Bool:=(Nd e fun Y g Y=>aC g fun Y g=>a0 g (some ())).isSome
noncomputable def Qn(e:Option Expr):List Expr:=(Nd e fun Y g Y=>aC g fun g Y=>some g.ifs).getD []
noncomputable def tE(P:Params):Option Expr:=Wy (aL (KK P) 671) 0
noncomputable def qX(P:Params):Option Expr:=w6 (aL (KK P) 671) 1
noncomputable def BH(P:Params):Option Expr:=w6 (aL (KK P) 671) 2
noncomputable abbrev lJ(o r w rd wr:MV)(lk:Bool)(g:MV):MV:= .list [o,r,w,rd,wr,.bool lk,g]
theorem Jj(P:Params)(du:U4 (List MV))(st:St)(acc:List MV)(k:List MV→aH):dS 57 (j2 P du) (S "row") (tE P) [] st acc k=k acc:=by kernel_rfl
theorem PF(P:Params)(du:U4 (List MV))(o r w rd wr:MV)(lk:Bool)(g:MV)(ts acc:List MV)(k:List MV→aH):dS 57 (j2 P du) (S "row") (tE P) (lJ o r w rd wr lk g::ts) [] acc k=
 bif lk then dS 57 (j2 P du) (S "row") (tE P) ts [(.v (S "row"),.aw (lJ o r w rd wr lk g))] (acc++[lJ o r w rd wr lk g]) k else dS 57 (j2 P du) (S "row") (tE P) ts [(.v (S "row"),.aw (lJ o r w rd wr lk g))] acc k:=by kernel_rfl
theorem PE(P:Params)(du:U4 (List MV))(o r w rd wr:MV)(lk:Bool)(g old:MV)(ts acc:List MV)(k:List MV→aH):dS 57 (j2 P du) (S "row") (tE P) (lJ o r w rd wr lk g::ts) [(.v (S "row"),.aw old)] acc k=
 bif lk then dS 57 (j2 P du) (S "row") (tE P) ts [(.v (S "row"),.aw (lJ o r w rd wr lk g))] (acc++[lJ o r w rd wr lk g]) k else dS 57 (j2 P du) (S "row") (tE P) ts [(.v (S "row"),.aw (lJ o r w rd wr lk g))] acc k:=by kernel_rfl
noncomputable def oE(P:Params)(du:U4 (List MV)):Cx:={ j2 P du with sc:=tH (qX P)}
noncomputable def D7(P:Params)(du:U4 (List MV)):Cx:={ j2 P du with sc:=tH (BH P)}
theorem eO{e:Option Expr}{acc:List MV}{k:List MV→aH}(h:Oj e=true):dS n cx x e [] st acc k=k acc:=by
 obtain⟨u,h⟩:=rI h
 obtain⟨t,g,sc,p,rfl,h⟩:=Bi h
 obtain⟨g,l,rfl,h⟩:=bL h
 obtain⟨rfl,Y⟩:=cm h
 rfl
theorem fA{e:Option Expr}{acc:List MV}{k:List MV→aH}(h:Oj e=true)(hi:Qn e=[]):
 dS n cx x e (t::ts) st acc k=ev n { cx with sc:=tH e } (fL (gu e)) (st.put (.v x) (.aw t)) fun Y u st=>dS n cx x e ts st (acc++[u]) k:=by
 obtain⟨u,h⟩:=rI h
 obtain⟨qV,g,sc,p,rfl,h⟩:=Bi h
 obtain⟨g,l,rfl,h⟩:=bL h
 obtain⟨rfl,Y⟩:=cm h
 obtain⟨a,b,ifs,c⟩:=g
 obtain rfl:ifs=[]:=hi
 rfl
theorem PD(P:Params)(du:U4 (List MV))(o r w:MV)(rd:List MV)(wr:MV)(lk:Bool)(g:MV)(k:KT):ev 56 (oE P du) (fL (gu (qX P))) [(.v (S "row"),.aw (lJ o r w (.list rd) wr lk g))] k=
 bif aQ rd.length then dS 55 (oE P du) (S "octet") (gu (qX P)) rd [] [] fun us=>k true (.list us) [(.v (S "row"),.aw (lJ o r w (.list rd) wr lk g))]else none:=by kernel_rfl
theorem Ji(P:Params)(du:U4 (List MV))(st:St)(acc:List MV)(k:List MV→aH):dS 55 (oE P du) (S "octet") (gu (qX P)) [] st acc k=k acc:=by kernel_rfl
theorem PC(P:Params)(du:U4 (List MV))(x:Int)(ts acc:List MV)(k:List MV→aH):dS 55 (oE P du) (S "octet") (gu (qX P)) (.int x::ts) [] acc k=
 dS 55 (oE P du) (S "octet") (gu (qX P)) ts [(.v (S "octet"),.aw (.int x))] (acc++[.int ((-x-1).fdiv 8)]) k:=by kernel_rfl
theorem PB(P:Params)(du:U4 (List MV))(x:Int)(old:MV)(ts acc:List MV)(k:List MV→aH):dS 55 (oE P du) (S "octet") (gu (qX P)) (.int x::ts) [(.v (S "octet"),.aw old)] acc k=
 dS 55 (oE P du) (S "octet") (gu (qX P)) ts [(.v (S "octet"),.aw (.int x))] (acc++[.int ((-x-1).fdiv 8)]) k:=by kernel_rfl
noncomputable def wG(wr:List Int):List Int:=((List.range 8).filter fun s:Nat=>((List.range 8).all fun j:Nat=>decide (-8*(s:Int)-8+(j:Int)∈wr))).map fun s:Nat=>(s:Int)
theorem Jh(P:Params)(du:U4 (List MV))(o r w rd:MV)(lk:Bool)(g:MV)(k:KT):ev 55 (D7 P du) (fL (gu (BH P))) [(.v (S "row"),.aw (lJ o r w rd (il []) lk g))] k=k true (il []) [(.v (S "row"),.aw (lJ o r w rd (il []) lk g))]:=by kernel_rfl
theorem PA(P:Params)(du:U4 (List MV))(o r w rd:MV)(lk:Bool)(g:MV)(k:KT):ev 55 (D7 P du) (fL (gu (BH P))) [(.v (S "row"),.aw (lJ o r w rd (il (jY (-16) 8)) lk g))] k=k true (il (wG (jY (-16) 8))) [(.v (S "row"),.aw (lJ o r w rd (il (jY (-16) 8)) lk g))]:=by kernel_rfl
noncomputable def qt(P:Params)(du:U4 (List MV))(wr:List Int):Prop:= ∀(o r w rd:MV)(lk:Bool)(g:MV)(k:KT),ev 55 (D7 P du) (fL (gu (BH P))) [(.v (S "row"),.aw (lJ o r w rd (il wr) lk g))] k=k true (il (wG wr)) [(.v (S "row"),.aw (lJ o r w rd (il wr) lk g))]
theorem Pw(P:Params)(du:U4 (List MV)):qt P du (jY (-8) 8):=fun o r w rd lk g k=>by kernel_rfl
theorem Pu(P:Params)(du:U4 (List MV)):qt P du (jY (-8) 4):=fun o r w rd lk g k=>by kernel_rfl
theorem Ps(P:Params)(du:U4 (List MV)):qt P du (jY (-8) 2):=fun o r w rd lk g k=>by kernel_rfl
theorem Pq(P:Params)(du:U4 (List MV)):qt P du (jY (-16) 8):=fun o r w rd lk g k=>by kernel_rfl
theorem Po(P:Params)(du:U4 (List MV)):qt P du (jY (-16) 4):=fun o r w rd lk g k=>by kernel_rfl
theorem Pn(P:Params)(du:U4 (List MV)):qt P du (jY (-16) 2):=fun o r w rd lk g k=>by kernel_rfl
theorem Pm(P:Params)(du:U4 (List MV)):qt P du (jY (-24) 8):=fun o r w rd lk g k=>by kernel_rfl
theorem Pk(P:Params)(du:U4 (List MV)):qt P du (jY (-24) 4):=fun o r w rd lk g k=>by kernel_rfl
theorem Pj(P:Params)(du:U4 (List MV)):qt P du (jY (-24) 2):=fun o r w rd lk g k=>by kernel_rfl
theorem Ph(P:Params)(du:U4 (List MV)):qt P du (jY (-32) 8):=fun o r w rd lk g k=>by kernel_rfl
theorem Lr(P:Params)(du:U4 (List MV)):qt P du (jY (-32) 4):=fun o r w rd lk g k=>by kernel_rfl
theorem Lq(P:Params)(du:U4 (List MV)):qt P du (jY (-32) 2):=fun o r w rd lk g k=>by kernel_rfl
theorem Lp(P:Params)(du:U4 (List MV)):qt P du (jY (-4) 4):=fun o r w rd lk g k=>by kernel_rfl
theorem Lo(P:Params)(du:U4 (List MV)):qt P du (jY (-4) 2):=fun o r w rd lk g k=>by kernel_rfl
theorem Ln(P:Params)(du:U4 (List MV)):qt P du (jY (-12) 4):=fun o r w rd lk g k=>by kernel_rfl
theorem Lm(P:Params)(du:U4 (List MV)):qt P du (jY (-12) 2):=fun o r w rd lk g k=>by kernel_rfl
theorem Ll(P:Params)(du:U4 (List MV)):qt P du (jY (-20) 4):=fun o r w rd lk g k=>by kernel_rfl
theorem Lk(P:Params)(du:U4 (List MV)):qt P du (jY (-20) 2):=fun o r w rd lk g k=>by kernel_rfl
theorem Lj(P:Params)(du:U4 (List MV)):qt P du (jY (-28) 4):=fun o r w rd lk g k=>by kernel_rfl
theorem Li(P:Params)(du:U4 (List MV)):qt P du (jY (-28) 2):=fun o r w rd lk g k=>by kernel_rfl
theorem N4{P:Params}{du:U4 (List MV)}{bV w:Int}(h:(bV,w)∈y6):qt P du (jY bV w):=by
 exact(show ∀p∈y6,qt P du (jY p.1 p.2)from aN.mpr ⟨Pw P du,aN.mpr ⟨Pu P du,aN.mpr ⟨Ps P du,aN.mpr ⟨Pq P du,aN.mpr ⟨Po P du,aN.mpr ⟨Pn P du,aN.mpr ⟨Pm P du,aN.mpr ⟨Pk P du,aN.mpr ⟨Pj P du,aN.mpr ⟨Ph P du,aN.mpr ⟨Lr P du,aN.mpr ⟨Lq P du,aN.mpr ⟨Lp P du,aN.mpr ⟨Lo P du,aN.mpr ⟨Ln P du,aN.mpr ⟨Lm P du,aN.mpr ⟨Ll P du,aN.mpr ⟨Lk P du,aN.mpr ⟨Lj P du,aN.mpr ⟨Li P du,fun Y h=>nomatch h⟩⟩⟩⟩⟩⟩⟩⟩⟩⟩⟩⟩⟩⟩⟩⟩⟩⟩⟩⟩) (bV,w) h
theorem Pz(P:Params)(du:U4 (List MV))(rs:List MV)(k:St→aH):bF 60 (j2 P du) (aL (KK P) 671) [(.v (S "rows"),.aw (.list rs))] k=
 bif aQ rs.length then dS 57 (j2 P du) (S "row") (tE P) rs [] [] fun us=>eN .NotEq (.list us) (.list []) fun b=>bif b then(m5 .Mult (.list [.int 18446744073709551615]) (.int (rs.length:Nat)) fun Y t=>some (t,none))else bF 59 (j2 P du) ((aL (KK P) 671).drop 1) [(.v (S "rows"),.aw (.list rs))] k else none:=by kernel_rfl
theorem Py(P:Params)(du:U4 (List MV))(rs:List MV)(k:St→aH):bF 59 (j2 P du) ((aL (KK P) 671).drop 1) [(.v (S "rows"),.aw (.list rs))] k=
 bif aQ rs.length then dS 56 (j2 P du) (S "row") (qX P) rs [] [] fun us=>bF 58 (j2 P du) ((aL (KK P) 671).drop 2) [(.v (S "rows"),.aw (.list rs)),(.v (S "read"),.own (.list us))] k else none:=by kernel_rfl
theorem Px(P:Params)(du:U4 (List MV))(rs us:List MV)(k:St→aH):bF 58 (j2 P du) ((aL (KK P) 671).drop 2) [(.v (S "rows"),.aw (.list rs)),(.v (S "read"),.own (.list us))] k=
 bif aQ rs.length then dS 55 (j2 P du) (S "row") (BH P) rs [] [] fun vs=>du (.list rs) (.range 0 ((8:Nat):Int) 1) (.list us) (.list vs) fun r=>some (.list r,none)else none:=by kernel_rfl
structure ez where
 o:MV
 reads:List Int
 writes:List Int
 rd:List Int
 wr:List Int
 fF:Bool
 goal:Int
noncomputable abbrev ez.val(d:ez):MV:=DC d.o d.reads d.writes d.rd d.wr d.fF d.goal
section
variable{P:Params}{du:U4 (List MV)}
theorem xC{k:List MV→aH}: ∀(ds:List ez)(old:MV)(acc:List MV),dS 57 (j2 P du) (S "row") (tE P) (ds.map ez.val) [(.v (S "row"),.aw old)] acc k=k (acc++(ds.filter ez.fF).map ez.val):=by
 intro l_
 induction l_ with
 |nil=>intro old acc;rw[dw,Jj,List.filter_nil,dw,bG]
 |cons d ds ih=>
  intro old acc
  refine ae bv ?_
  refine(PE P du d.o _ _ _ _ d.fF _ old _ acc k).trans ?_
  induction q:d.fF using ag with
  |true=>refine(ao ..).trans ((ih ..).trans (ae List.filter_cons (ae q (ae (aF rfl) (ae bv (ae (bE ..) ?_))))));refine(?_:k (acc++(DC _ _ _ _ _ true _::_))=_);exact ft q rfl
  |false=>exact(bH ..).trans ((ih ..).trans (ae List.filter_cons (ae q (ae (az (fun h=>nomatch h)) rfl))))
theorem B7{k:List MV→aH}(ds:List ez):dS 57 (j2 P du) (S "row") (tE P) (ds.map ez.val) [] [] k=k ((ds.filter ez.fF).map ez.val):=by
 induction ds using aO with
 |nil=>rw[dw,Jj];rfl
 |cons d ds=>
  refine ae bv ?_
  refine(PF P du d.o _ _ _ _ d.fF _ _ [] k).trans ?_
  induction q:d.fF using ag with
  |true=>refine(ao ..).trans ((xC ds ..).trans (ae List.filter_cons (ae q (ae (aF rfl) (ae bv ?_)))));refine(?_:k (DC _ _ _ _ _ true _::_)=_);exact ft q rfl
  |false=>exact(bH ..).trans ((xC ds ..).trans (ae List.filter_cons (ae q (ae (az (fun h=>nomatch h)) rfl))))
noncomputable def Av(rd:List Int):List Int:=rd.map fun o=>(-o-1).fdiv 8
theorem Ls{k:List MV→aH}: ∀(rd:List Int)(old:MV)(acc:List MV),dS 55 (oE P du) (S "octet") (gu (qX P)) (rd.map .int) [(.v (S "octet"),.aw old)] acc k=k (acc++(Av rd).map .int):=by
 intro l_
 induction l_ with
 |nil=>intro old acc;refine ae dw ((Ji ..).trans ?_);refine(?_:_=k (acc++[]));exact ae (bG ..) rfl
 |cons x rd ih=>intro old acc;exact ae bv ((PB ..).trans ((ih ..).trans (ae (bE ..) rfl)))
theorem Hx{k:List MV→aH}(rd:List Int):dS 55 (oE P du) (S "octet") (gu (qX P)) (rd.map .int) [] [] k=k ((Av rd).map .int):=by
 induction rd using aO with
 |nil=>rw[dw,Ji];rfl
 |cons x rd=>exact ae bv ((PC ..).trans ((Ls rd ..).trans rfl))
theorem Hw{k:List MV→aH}: ∀(ds:List ez)(_: ∀d∈ds,d.rd.length≤1000)(st:St)(_:st=[]∨ ∃old,st=[(.v (S "row"),.aw old)])(acc:List MV),dS 56 (j2 P du) (S "row") (qX P) (ds.map ez.val) st acc k=k (acc++ds.map fun d=>il (Av d.rd)):=by
 intro l_
 induction l_ with
 |nil=>intro _ st hs acc;rw[dw,eO (by kernel_rfl),dw,bG]
 |cons d ds ih=>
  intro h st hs acc
  refine ae bv ((fA (by kernel_rfl) (by kernel_rfl)).trans ?_)
  have e:st.put (.v (S "row")) (.aw d.val)=[(.v (S "row"),.aw d.val)]:=by
   rcases hs with rfl|⟨old,rfl⟩
   .rfl
   .rfl
  refine ae e ?_
  refine(PD P du d.o _ _ (d.rd.map .int) _ d.fF _ _).trans ?_
  exact ae (ai ..) (ae (bo (by have:=h d (.head _);exact af ‹_› (aa rfl))) ((ao ..).trans ((Hx ..).trans (ae (ih (fun d hd=>h d (.tail _ hd)) _ (.inr ⟨_,rfl⟩) ..) (ae (bE ..) rfl)))))
theorem Lh{k:List MV→aH}: ∀(ds:List ez)(_: ∀d∈ds,qt P du d.wr)(st:St)(_:st=[]∨ ∃old,st=[(.v (S "row"),.aw old)])(acc:List MV),dS 55 (j2 P du) (S "row") (BH P) (ds.map ez.val) st acc k=k (acc++ds.map fun d=>il (wG d.wr)):=by
 intro l_
 induction l_ with
 |nil=>intro _ st hs acc;rw[dw,eO (by kernel_rfl),dw,bG]
 |cons d ds ih=>
  intro h st hs acc
  refine ae bv ((fA (by kernel_rfl) (by kernel_rfl)).trans ?_)
  have e:st.put (.v (S "row")) (.aw d.val)=[(.v (S "row"),.aw d.val)]:=by
   rcases hs with rfl|⟨old,rfl⟩
   .rfl
   .rfl
  refine ae e ?_
  refine(h d (.head _) d.o _ _ _ d.fF _ _).trans ?_
  exact ae (ih (fun d hd=>h d (.tail _ hd)) _ (.inr ⟨_,rfl⟩) ..) (ae (bE ..) rfl)
theorem E3{ds:List ez}{res:List MV}(hn:ds.length≤100)(h1: ∀d∈ds,d.rd.length≤1000)(h2: ∀d∈ds,qt P du d.wr)
 (hl:ds.any ez.fF=true→res=List.replicate ds.length (.int 18446744073709551615))
 (hd:ds.any ez.fF=false→ ∀k,du (.list (ds.map ez.val)) (.range 0 ((8:Nat):Int) 1) (.list (ds.map fun d=>il (Av d.rd))) (.list (ds.map fun d=>il (wG d.wr))) k=k res):
 cB P 60 (bx [(S "_law_due",s4 f9 du)] []) 671 [] false [.list (ds.map ez.val)]=some (.list res,none):=by
 refine fh (st:=[(.v (S "rows"),.aw (.list (ds.map ez.val)))]) (by kernel_rfl) fun k=>?_
 refine(Pz P du _ k).trans ?_
 have z:aQ (ds.map ez.val).length=true:=bo (by exact ae (ai ..) (af ‹_› (aa rfl)))
 rw[z,ao,B7,zz]
 induction q:ds.any ez.fF using ag with
 |true=>
  obtain⟨d,hd,hk⟩:=cg.mp q
  have:((ds.filter ez.fF).map ez.val).isEmpty=false:=by
   induction e:ds.filter ez.fF using aO with
   |nil=>exact absurd hk (by have:=List.filter_eq_nil_iff.mp e d hd;exact this)
   |cons=>rfl
  refine ae this (ae (hl q) ?_)
  refine(?_:(bif decide (0≤(((ds.map ez.val).length:Nat):Int))&&decide ((((ds.map ez.val).length:Nat):Int)≤1000000)then some (MV.list (List.replicate (((ds.map ez.val).length:Nat):Int).toNat (.int 18446744073709551615)),none)else none)=_)
  rw[ai,bJ,show(decide (0≤((ds.length:Nat):Int))&&decide (((ds.length:Nat):Int)≤1000000))=true by simp;lia];rfl
 |false=>
  have:(ds.filter ez.fF)=[]:=List.filter_eq_nil_iff.mpr fun d hd e=>by
   have:=cg.mpr ⟨d,hd,e⟩
   rw[q]at this;exact ew this
  refine ae this ?_
  exact(Py ..).trans (ae z ((ao ..).trans ((Hw ds h1 _ (.inl rfl) ..).trans ((Px ..).trans (ae z ((ao ..).trans ((Lh ds h2 _ (.inl rfl) ..).trans (ae (dd ..) (ae (dd ..) ((hd q ..)))))))))))
end
noncomputable def Nr(P:Params):U1 (List MV):=K1 f9 P (bx [(S "_law_due",s4 f9 (vC P))] []) 671
theorem Ip(hD:Good D):aV D 23 (S "_law_slots") (s1 f9 (Nr D.w.params)):=
 f1 hD f9 (by decide) (dV hD (ay (JS hD) (by decide) bz) cX) (by kernel_rfl) (by kernel_rfl) (by kernel_rfl) (by kernel_rfl)
noncomputable def jN(P:Params):U1 Bool:=K1 gb P (bx [] []) 200
noncomputable def OF(P:Params):Cx:=bx [(S "is_jumping",fq P)] []
noncomputable def nk(P:Params):U1 Bool:=K1 gb P (OF P) 207
noncomputable def OI(P:Params):Cx:=bx [(S "is_jumping",fq P),(S "is_jump",ji P),(S "is_call",gy P),(S "is_exit",gx P)] []
noncomputable def jS(P:Params):U1 Bool:=K1 gb P (OI P) 235
noncomputable def fV(P:Params):U1 Bool:=K1 gb P (bx [] []) 221
noncomputable def xq(P:Params):U1 Bool:=K1 gb P (bx [] []) 228
noncomputable def OG(P:Params):Cx:=bx [(S "is_jump",ji P),(S "is_branch",mc P),(S "is_local_call",c5 P)] []
noncomputable def rP(P:Params):U1 Bool:=K1 gb P (OG P) 473
noncomputable def BN(P:Params):Cx:=bx [(S "is_local_call",c5 P)] []
noncomputable def rV(P:Params):U1 Int:=K1 ed P (BN P) 263
noncomputable def OD(P:Params):Cx:=bx [(S "is_exit",gx P),(S "uses",r8 P),(S "is_call",gy P),(S "is_local_call",c5 P),(S "mask_of",kD P),(S "call_reads",k9 P)] []
noncomputable def zf(P:Params):U1 MV:=K1 mX P (OD P) 569
noncomputable def OC(P:Params):Cx:=bx [(S "is_load",kE P),(S "is_atomic",gA P),(S "is_store",jz P),(S "is_whole_slot",iO P),(S "slots_touched",iN P),(S "width_of",n5 P)] []
noncomputable def rK(P:Params):U1 MV:=K1 mX P (OC P) 602
noncomputable def OE(P:Params):Cx:=bx [(S "is_load",kE P),(S "is_call",gy P),(S "is_local_call",c5 P),(S "is_exit",gx P),(S "is_store",jz P),(S "is_atomic",gA P),(S "uses",r8 P),(S "class_of",n6 P)] []
noncomputable def ur(P:Params):U1 Bool:=K1 gb P (OE P) 609
theorem L2(hD:Good D):aV D 21 (S "is_wide") (s1 gb (jN D.w.params)):=(CH hD).sub rfl rfl fun Y Y Y h=>gJ (T:=gb) (by kernel_rfl) h
theorem zG(hD:Good D):aV D 22 (S "is_jump") (s1 gb (nk D.w.params)):=(mP hD).sub rfl rfl fun Y Y Y h=>gJ (T:=gb) (by kernel_rfl) h
theorem xZ(hD:Good D):aV D 23 (S "is_branch") (s1 gb (jS D.w.params)):=(qM hD).sub rfl rfl fun Y Y Y h=>gJ (T:=gb) (by kernel_rfl) h
theorem AQ(hD:Good D):aV D 21 (S "is_local_call") (s1 gb (fV D.w.params)):=(eC hD).sub rfl rfl fun Y Y Y h=>gJ (T:=gb) (by kernel_rfl) h
theorem Ex(hD:Good D):aV D 21 (S "is_exit") (s1 gb (xq D.w.params)):=(kC hD).sub rfl rfl fun Y Y Y h=>gJ (T:=gb) (by kernel_rfl) h
theorem L5(hD:Good D):aV D 24 (S "has_goal") (s1 gb (rP D.w.params)):=(Ab hD).sub rfl rfl fun Y Y Y h=>gJ (T:=gb) (by kernel_rfl) h
theorem L6(hD:Good D):aV D 22 (S "distance") (s1 ed (rV D.w.params)):=(Ac hD).sub rfl rfl fun Y Y Y h=>gJ (T:=ed) (by kernel_rfl) h
theorem QQ(hD:Good D):aV D 25 (S "register_masks") (s1 mX (zf D.w.params)):=(qi hD).sub rfl rfl fun Y Y Y h=>gJ (T:=mX) (by kernel_rfl) h
theorem L3(hD:Good D):aV D 23 (S "slot_masks") (s1 mX (rK D.w.params)):=(ww hD).sub rfl rfl fun Y Y Y h=>gJ (T:=mX) (by kernel_rfl) h
theorem L4(hD:Good D):aV D 25 (S "leaks_frame") (s1 gb (ur D.w.params)):=(tU hD).sub rfl rfl fun Y Y Y h=>gJ (T:=gb) (by kernel_rfl) h
noncomputable def eI(t:MV)(a:Int)(k:aH):aH:=dI t fun x=>bif x==a then k else none
theorem ED{a:Int}{k:aH}{r:MV×Option MV}(h:eI t a k=some r):t= .int a∧k=some r:=by
 obtain⟨x,rfl,h⟩:=dE h
 obtain⟨e,h⟩:=aJ h
 exact⟨aB _ (eq_of_beq e),h⟩
noncomputable def KY(o:aH)(a b:Int):Bool:=(Nt o fun t=>dT t fun l=>aC l fun x l=>aC l fun y l=>a0 l <| eI x a <| eI y b <| some (.none,none)).isSome
noncomputable def wZ(o:aH)(b:Bool):Bool:=(Nt o fun t=>dB t fun x=>bif x==b then some (.none,none)else none).isSome
theorem Bj{o:aH}{a b:Int}(h:KY o a b=true):o=some (.tup [.int a,.int b],none):=by
 obtain⟨u,h⟩:=rI h
 obtain⟨t,rfl,h⟩:=rq h
 obtain⟨l,rfl,h⟩:=EG h
 obtain⟨x,l,rfl,h⟩:=bL h
 obtain⟨y,l,rfl,h⟩:=bL h
 obtain⟨rfl,h⟩:=cm h
 obtain⟨rfl,g⟩:=ED h
 obtain⟨rfl,_⟩:=ED g
 rfl
theorem kQ{o:aH}{b:Bool}(h:wZ o b=true):o=some (.bool b,none):=by
 obtain⟨u,h⟩:=rI h
 obtain⟨t,rfl,h⟩:=rq h
 obtain⟨x,rfl,h⟩:=nQ h
 exact eq_of_beq (aJ h).1▸rfl
noncomputable def dA(B:Nat)(l:List Int):Nat:=maskOf (fun b=>decide ((b:Int)∈l)) B
noncomputable abbrev iJ:List Int:=[0,1,2,3,4,5,6,7,8,9]
theorem eJ{i:Int}(h:ug i):i∈iJ:=by
 obtain⟨n,a,rfl⟩:=MR (k:=10) h.1 h.2
 exact(by decide: ∀n,n<10→((n:Nat):Int)∈iJ) n a
noncomputable abbrev XX(P:Params)(t:MV):aH:=cB P 60 (OD P) 569 [] false [t]
noncomputable abbrev XQ(P:Params)(t:MV):aH:=cB P 60 (OC P) 602 [] false [t]
noncomputable abbrev Yc(P:Params)(t:MV):aH:=cB P 60 (OE P) 609 [] false [t]
noncomputable abbrev rT(P:Params)(t:MV)(r w:List Int):Bool:=KY (XX P t) (dA 11 r:Nat) (dA 11 w:Nat)
noncomputable abbrev sT(P:Params)(t:MV)(rd wr:List Int):Bool:=KY (XQ P t) (dA 8 (Av rd):Nat) (dA 8 (wG wr):Nat)
noncomputable abbrev lT(P:Params)(t:MV)(b:Bool):Bool:=wZ (Yc P t) b
theorem TX(P:Params)(jH:Int):([(21:Int),197,69].all fun c=>iJ.all fun one=>rT P (ff c one 0 jH 3) [one] []&&(sT P (ff c one 0 jH 3) [] []&&lT P (ff c one 0 jH 3) false))=true:=by kernel_rfl
theorem LF(P:Params):(lU.all fun c=>rT P (ff 133 0 0 0 c.1) (jY 1 c.2) [0,1,2,3,4,5]&&(sT P (ff 133 0 0 0 c.1) [] []&&lT P (ff 133 0 0 0 c.1) false))=true:=by kernel_rfl
theorem PT(P:Params)(jj:Int):(rT P (ff 133 0 1 0 jj) [1,2,3,4,5] [0,1,2,3,4,5]&&(sT P (ff 133 0 1 0 jj) [] []&&lT P (ff 133 0 1 0 jj) false))=true:=by kernel_rfl
theorem PV(P:Params)(jH:Int):([(8:Int),4,2].all fun w=>iJ.all fun one=>rT P (ff (97+jl w) one 10 jH 0) [10] [one]&&lT P (ff (97+jl w) one 10 jH 0) false)=true:=by kernel_rfl
theorem PU(P:Params)(one:Int):(y6.all fun p=>sT P (ff (97+jl p.2) one 10 p.1 0) (jY p.1 p.2) [])=true:=by kernel_rfl
theorem PP(P:Params)(jH:Int):([(8:Int),4,2].all fun w=>iJ.all fun one=>rT P (ff (99+jl w) 10 one jH 0) [10,one] []&&lT P (ff (99+jl w) 10 one jH 0) false)=true:=by kernel_rfl
theorem PO(P:Params)(one:Int):(y6.all fun p=>sT P (ff (99+jl p.2) 10 one p.1 0) [] (jY p.1 p.2))=true:=by kernel_rfl
theorem LH(P:Params)(jH:Int):([(0:Int),65,160].all fun jj=>iJ.all fun one=>rT P (ff 195 10 one jH jj) [10,one] (if jj=65 then[one]else[])&&lT P (ff 195 10 one jH jj) false)=true:=by kernel_rfl
theorem LG(P:Params)(one jj:Int):(oz.all fun p=>sT P (ff 195 10 one p jj) (jY p 4) [])=true:=by kernel_rfl
theorem PS(P:Params):(iJ.all fun one=>rT P (ff 191 one 10 0 0) [10] [one]&&(sT P (ff 191 one 10 0 0) [] []&&lT P (ff 191 one 10 0 0) true))=true:=by kernel_rfl
theorem PQ(P:Params):(rT P (ff 123 10 10 (-16) 0) [10] []&&(sT P (ff 123 10 10 (-16) 0) [] (jY (-16) 8)&&lT P (ff 123 10 10 (-16) 0) true))=true:=by kernel_rfl
theorem LD(P:Params)(jH:Int):([(8:Int),4,2].all fun w=>rT P (ff (98+jl w) 10 0 jH 5) [10] []&&lT P (ff (98+jl w) 10 0 jH 5) false)=true:=by kernel_rfl
theorem LC(P:Params):(y6.all fun p=>sT P (ff (98+jl p.2) 10 0 p.1 5) [] (jY p.1 p.2))=true:=by kernel_rfl
theorem TW(P:Params):(rT P (ff 149 0 0 0 0) [0] []&&(sT P (ff 149 0 0 0 0) [] []&&lT P (ff 149 0 0 0 0) false))=true:=by kernel_rfl
theorem PW(P:Params):(iJ.all fun one=>iJ.all fun other=>rT P (ff 15 one other 0 0) [one,other] [one]&&lT P (ff 15 one other 0 0) false)=true:=by kernel_rfl
theorem PR(P:Params):(iJ.all fun one=>iJ.all fun other=>rT P (ff 191 one other 0 0) [other] [one]&&lT P (ff 191 one other 0 0) false)=true:=by kernel_rfl
theorem LI(P:Params)(other:Int):([(15:Int),191].all fun c=>iJ.all fun one=>sT P (ff c one other 0 0) [] [])=true:=by kernel_rfl
structure J0(P:Params)(t:MV)(ex br lo:Bool):Prop where
 wide: ∀k,jN P t k=k false
 Ry: ∀k,nk P t k=k false
 exit: ∀k,xq P t k=k ex
 branch: ∀k,jS P t k=k br
 loc: ∀k,fV P t k=k lo
 goal: ∀k,rP P t k=k (br||lo)
noncomputable def G0(P:Params)(t:MV)(ex br lo:Bool):Bool:=wZ (cB P 60 (bx [] []) 200 [] false [t]) false&&(wZ (cB P 60 (OF P) 207 [] false [t]) false&&(wZ (cB P 60 (bx [] []) 228 [] false [t]) ex&&(wZ (cB P 60 (OI P) 235 [] false [t]) br&&(wZ (cB P 60 (bx [] []) 221 [] false [t]) lo&&wZ (cB P 60 (OG P) 473 [] false [t]) (br||lo)))))
theorem F0{P:Params}{ex br lo:Bool}(h:G0 P t ex br lo=true):J0 P t ex br lo:=by
 delta G0 at h
 simp only[aU]at h
 obtain⟨a,b,c,d,e,g⟩:=h
 exact⟨cZ (T:=gb) (kQ a),cZ (T:=gb) (kQ b),cZ (T:=gb) (kQ c),cZ (T:=gb) (kQ d),cZ (T:=gb) (kQ e),cZ (T:=gb) (kQ g)⟩
theorem QX(P:Params)(tB y0 jH jj:Int):([(21:Int),197,69].all fun c=>G0 P (ff c tB y0 jH jj) false true false)=true:=by kernel_rfl
theorem Im(P:Params)(tB jH jj:Int):G0 P (ff 133 tB 0 jH jj) false false false=true:=by kernel_rfl
theorem L8(P:Params)(tB jH jj:Int):G0 P (ff 133 tB 1 jH jj) false false true=true:=by kernel_rfl
theorem L7(P:Params)(tB y0 jH jj:Int):([(121:Int),97,105,123,99,107,122,98,106,195,191,15].all fun c=>G0 P (ff c tB y0 jH jj) false false false)=true:=by kernel_rfl
theorem QW(P:Params)(tB y0 jH jj:Int):G0 P (ff 149 tB y0 jH jj) true false false=true:=by kernel_rfl
theorem Mw(P:Params)(tB y0 jH jj:Int):cB P 60 (BN P) 263 [] false [ff 21 tB y0 jH jj]=some (.int jH,none):=by kernel_rfl
theorem Mv(P:Params)(tB y0 jH jj:Int):cB P 60 (BN P) 263 [] false [ff 197 tB y0 jH jj]=some (.int jH,none):=by kernel_rfl
theorem Mu(P:Params)(tB y0 jH jj:Int):cB P 60 (BN P) 263 [] false [ff 69 tB y0 jH jj]=some (.int jH,none):=by kernel_rfl
theorem Mt(P:Params)(tB jH jj:Int):cB P 60 (BN P) 263 [] false [ff 133 tB 1 jH jj]=some (.int jj,none):=by kernel_rfl
structure uB(P:Params)(t:MV)(ex br lo:Bool)(d:Int)(reads writes rd wr:List Int)(lk:Bool):Prop where
 fl:J0 P t ex br lo
 dist:(br||lo)=true→ ∀k,rV P t k=k d
 Rx: ∀k,zf P t k=k (.tup [.int (dA 11 reads:Nat),.int (dA 11 writes:Nat)])
 slots: ∀k,rK P t k=k (.tup [.int (dA 8 (Av rd):Nat),.int (dA 8 (wG wr):Nat)])
 J4: ∀k,ur P t k=k lk
theorem iK{P:Params}{ex br lo:Bool}{d:Int}{reads writes rd wr:List Int}{lk:Bool}(h1:G0 P t ex br lo=true)(h2:(br||lo)=true→cB P 60 (BN P) 263 [] false [t]=some (.int d,none))(h3:rT P t reads writes=true)(h4:sT P t rd wr=true)(h5:lT P t lk=true):uB P t ex br lo d reads writes rd wr lk:=
 ⟨F0 h1,fun h=>cZ (T:=ed) (h2 h),cZ (T:=mX) (Bj h3),cZ (T:=mX) (Bj h4),cZ (T:=gb) (kQ h5)⟩
theorem two{a b:Bool}(h:(a&&b)=true):a=true∧b=true:=au.mp h
theorem ui{a b c:Bool}(h:(a&&(b&&c))=true):a=true∧b=true∧c=true:=⟨(two h).1,two (two h).2⟩
theorem all1{α:Type}{l:List α}{f:α→Bool}(h:l.all f=true){x:α}(hx:x∈l):f x=true:=dg.mp h x hx
theorem IV{P:Params}{c tB y0 jH jj:Int}(h:c∈[(121:Int),97,105,123,99,107,122,98,106,195,191,15]):G0 P (ff c tB y0 jH jj) false false false=true:=all1 (L7 P tB y0 jH jj) h
theorem AC{bV w:Int}(h:(bV,w)∈y6):w∈[(8:Int),4,2]:=(by decide: ∀p∈y6,p.2∈[(8:Int),4,2]) (bV,w) h
noncomputable def iV:Rw→Bool
 | .br _ _ _=>true
 |_=>false
noncomputable def kh:Rw→Bool
 | .loc=>true
 |_=>false
noncomputable def Rw.tree(at_ away:Int):Rw→MV
 | .loc=>ff 133 0 1 0 away
 |r=>r.ord at_
noncomputable def Rw.dist(at_ away:Int):Rw→Int
 | .br _ _ goal=>goal-at_-1
 |_=>away
theorem PH{P:Params}{count:Int}{main ba:Bool}{at_ away:Int}{r:Rw}(h:Rw.ok count main ba r):uB P (r.tree at_ away) false (iV r) (kh r) (r.dist at_ away) r.reads r.writes r.rd r.wr r.fF:=by
 cases r with
 |br c one goal=>
  obtain⟨hc,ho,_⟩:=h
  have q:=ui (all1 (all1 (TX P (goal-at_-1)) hc) (eJ ho))
  refine iK (all1 (QX P one 0 (goal-at_-1) 3) hc) (fun Y=>?_) q.1 q.2.1 q.2.2
  simp only[aA,cH,or_false]at hc
  rcases hc with rfl|rfl|rfl
  .exact Mw P _ _ _ _
  .exact Mv P _ _ _ _
  .exact Mu P _ _ _ _
 |call num many=>
  have q:=ui (all1 (LF P) (x:=(num,many)) h)
  exact iK (Im P _ _ _) (fun h=>nomatch h) q.1 q.2.1 q.2.2
 |loc=>
  have q:=ui (PT P away)
  exact iK (L8 P _ _ _) (fun Y=>Mt P _ _ _) q.1 q.2.1 q.2.2
 |ld bV w one=>
  obtain⟨hp,ho⟩:=h
  have hw:=AC hp
  have q:=two (all1 (all1 (PV P bV) hw) (eJ ho))
  refine iK (IV ?_) (fun h=>nomatch h) q.1 (all1 (PU P one) (x:=(bV,w)) hp) q.2
  simp only[aA,cH,or_false]at hw
  clear hp q;rcases hw with rfl|rfl|rfl<;>decide
 |st bV w one=>
  obtain⟨hp,ho⟩:=h
  have hw:=AC hp
  have q:=two (all1 (all1 (PP P bV) hw) (eJ ho))
  refine iK (IV ?_) (fun h=>nomatch h) q.1 (all1 (PO P one) (x:=(bV,w)) hp) q.2
  simp only[aA,cH,or_false]at hw
  clear hp q;rcases hw with rfl|rfl|rfl<;>decide
 |wN jj bV one=>
  obtain⟨hi,hp,ho⟩:=h
  have q:=two (all1 (all1 (LH P bV) hi) (eJ ho))
  exact iK (IV (by decide)) (fun h=>nomatch h) q.1 (all1 (LG P one jj) hp) q.2
 |II one=>
  have q:=ui (all1 (PS P) (eJ h.2))
  exact iK (IV (by decide)) (fun h=>nomatch h) q.1 q.2.1 q.2.2
 |Gs=>
  have q:=ui (PQ P)
  exact iK (IV (by decide)) (fun h=>nomatch h) q.1 q.2.1 q.2.2
 |GN bV w=>
  have hw:=AC h
  have q:=two (all1 (LD P bV) hw)
  refine iK (IV ?_) (fun h=>nomatch h) q.1 (all1 (LC P) (x:=(bV,w)) h) q.2
  simp only[aA,cH,or_false]at hw
  rcases hw with rfl|rfl|rfl<;>decide
 |C8 c one other=>
  obtain⟨hc,ho,ht⟩:=h
  have q2:=all1 (all1 (LI P other) hc) (eJ ho)
  simp only[aA,cH,or_false]at hc
  rcases hc with rfl|rfl
  .have q:=two (all1 (all1 (PW P) (eJ ho)) (eJ ht))
   exact iK (IV (by decide)) (fun h=>nomatch h) q.1 q2 q.2
  .have q:=two (all1 (all1 (PR P) (eJ ho)) (eJ ht))
   exact iK (IV (by decide)) (fun h=>nomatch h) q.1 q2 q.2
theorem Qi{P:Params}:uB P (ff 149 0 0 0 0) true false false 0 [0] [] [] [] false:=
 let q:=ui (TW P)
 iK (QW P _ _ _ _) (fun h=>nomatch h) q.1 q.2.1 q.2.2
noncomputable abbrev AK(os sl:List MV)(n:Nat)(ks:List Int)(ts:List MV)(many:Int):MV:= .inst 462 [S "orders",S "slots",S "by_slot",S "many_slots"] [.list os,.list sl,.dict n ks ts,.int many]
noncomputable abbrev aK(os sl:List MV)(n:Nat)(ks:List Int)(ts:List MV)(many:Int)(bp:List MV):MV:= .inst 462 [S "orders",S "slots",S "by_slot",S "many_slots",S "subs"] [.list os,.list sl,.dict n ks ts,.int many,.list bp]
noncomputable def KR(P:Params)(di:U1 Int):Cx:=bx [(S "distance",s1 ed di)] []
noncomputable def Tv(di:U1 Int)(os sl:List MV)(at_:Int):aH:=ea (.list sl) (.int at_) fun s=>m5 .Add s (.int 1) fun Y s1=>ea (.list os) (.int at_) fun t=>di t fun d=>m5 .Add s1 (.int d) fun Y r=>some (r,none)
theorem Zl(P:Params)(di:U1 Int)(os sl:List MV)(n:Nat)(ks:List Int)(ts:List MV)(many at_:Int):cB P 60 (KR P di) 431 [] false [AK os sl n ks ts many,.int at_]=Tv di os sl at_:=by kernel_rfl
theorem Zk(P:Params)(di:U1 Int)(os sl:List MV)(n:Nat)(ks:List Int)(ts:List MV)(many at_:Int)(bp:List MV):cB P 60 (KR P di) 431 [] false [aK os sl n ks ts many bp,.int at_]=Tv di os sl at_:=by kernel_rfl
theorem Zp(P:Params)(os sl:List MV)(n:Nat)(ks:List Int)(ts:List MV)(many:Int)(bp:List MV):cB P 60 (bx [] []) 424 [] false [aK os sl n ks ts many bp]=some (.int (os.length:Nat),none):=by kernel_rfl
noncomputable def OA(P:Params)(gs:U2 Int):Cx:=bx [] [((462,S "goal_slot"),s2 ed gs)]
theorem XI(P:Params)(gs:U2 Int)(os sl:List MV)(n:Nat)(ks:List Int)(ts:List MV)(many at_:Int)(bp:List MV):cB P 60 (OA P gs) 438 [] false [aK os sl n ks ts many bp,.int at_]=
 gs (aK os sl n ks ts many bp) (.int at_) fun s=>ea (.dict n ks ts) (.int s) fun t=>some (t,none):=by kernel_rfl
theorem XO(P:Params)(os sl:List MV)(n:Nat)(ks:List Int)(ts:List MV)(many at_:Int):cB P 60 (bx [] []) 445 [] false [aK os sl n ks ts many [.int 0],.int at_]=some (.int 0,none):=by kernel_rfl
theorem XN(P:Params)(os sl:List MV)(n:Nat)(ks:List Int)(ts:List MV)(many at_ n0:Int):cB P 60 (bx [] []) 445 [] false [aK os sl n ks ts many [.int 0,.int n0],.int at_]=bif decide (n0≤at_)then some (.int n0,none)else some (.int 0,none):=by kernel_rfl
theorem XW(P:Params)(os sl:List MV)(n:Nat)(ks:List Int)(ts:List MV)(many sub:Int):cB P 60 (bx [] []) 452 [] false [aK os sl n ks ts many [.int 0],.int sub]=bif decide ((0:Int)>sub)then some (.int 0,none)else some (.int (os.length:Nat),none):=by kernel_rfl
theorem XV(P:Params)(os sl:List MV)(n:Nat)(ks:List Int)(ts:List MV)(many n0 sub:Int):cB P 60 (bx [] []) 452 [] false [aK os sl n ks ts many [.int 0,.int n0],.int sub]=bif decide ((0:Int)>sub)then some (.int 0,none)else bif decide (n0>sub)then some (.int n0,none)else some (.int (os.length:Nat),none):=by kernel_rfl
noncomputable def lz(P:Params)(wi lo:U1 Bool)(gs:U2 Int):Cx:={ bx [(S "is_wide",s1 gb wi),(S "is_local_call",s1 gb lo)] [((462,S "goal_slot"),s2 ed gs)]with sc:=dF (KK P) 417 }
noncomputable abbrev m7(os sl:List MV)(n:Nat)(ks:List Int)(ts:List MV)(gg:Int)(tail:St):St:=(.v (S "self"),.me 462)::(.v (S "orders"),.aw (.list os))::(.a (S "orders"),.own (.list os))::(.a (S "slots"),.own (.list sl))::(.a (S "by_slot"),.own (.dict n ks ts))::(.v (S "slot"),.aw (.int gg))::tail
theorem eX{k:St→aH}: ∀(j:Nat){l:List Stmt}{st:St},bF (m+1+j) cx l st k=bF (m+1+j) cx (l.take j) st fun st=>bF (m+1) cx (l.drop j) st k
 |0,l,st=>rfl
 |j+1,[],st=>rfl
 |j+1,s::r,st=>by
  refine(?_:ex (m+1+j) cx s st (fun st=>bF (m+1+j) cx r st k)=ex (m+1+j) cx s st (fun st=>bF (m+1+j) cx (r.take j) st fun st=>bF (m+1) cx (r.drop j) st k))
  congr 1
  funext st
  exact eX j
theorem UC(P:Params)(wi lo:U1 Bool)(gs:U2 Int)(os:List MV)(k:St→aH):bF 60 (lz P wi lo gs) ((aL (KK P) 417).take 4) [(.v (S "self"),.me 462),(.v (S "orders"),.aw (.list os))] k=
 bif aQ os.length then k (m7 os [] 0 [] [] 0 [])else none:=by kernel_rfl
noncomputable def Dw(P:Params):List Stmt:=j1 (aL (KK P) 417) 4
noncomputable def Dv(P:Params):List Stmt:=j1 (aL (KK P) 417) 7
theorem Qs(P:Params)(wi lo:U1 Bool)(gs:U2 Int)(os:List MV)(k:MV→St→aH):peek (ev 53 (lz P wi lo gs)) (lz P wi lo gs) (lV ((aL (KK P) 417).drop 4)) (m7 os [] 0 [] [] 0 []) k=k (.int (os.length:Nat)) (m7 os [] 0 [] [] 0 []):=by kernel_rfl
theorem Qw(P:Params)(wi lo:U1 Bool)(gs:U2 Int)(os sl:List MV)(n:Nat)(ks:List Int)(ts:List MV)(gg i:Int)(k:St→aH):bF 54 (lz P wi lo gs) (Dw P) (m7 os sl n ks ts gg [(.v (S "index"),.aw (.int i))]) k=
 bif aQ sl.length then bif aQ n then ea (.list os) (.int i) fun t=>wi t fun w=>bif w then k (m7 os (sl++[.int gg]) (n+1) (gZ ks ts gg (.int i)).1 (gZ ks ts gg (.int i)).2 (gg+2) [(.v (S "index"),.aw (.int i))])
  else k (m7 os (sl++[.int gg]) (n+1) (gZ ks ts gg (.int i)).1 (gZ ks ts gg (.int i)).2 (gg+1) [(.v (S "index"),.aw (.int i))])else none else none:=by kernel_rfl
noncomputable abbrev wO(ix:MV)(many:Int)(bs:List Int):St:=[(.v (S "index"),.aw ix),(.a (S "many_slots"),.aw (.int many)),(.v (S "begins"),.own (.set bs))]
theorem UB(P:Params)(wi lo:U1 Bool)(gs:U2 Int)(os sl:List MV)(n:Nat)(ks:List Int)(ts:List MV)(gg:Int)(ix:MV)(k:St→aH):bF 55 (lz P wi lo gs) (((aL (KK P) 417).drop 5).take 2) (m7 os sl n ks ts gg [(.v (S "index"),.aw ix)]) k=
 k (m7 os sl n ks ts gg (wO ix gg [0])):=by kernel_rfl
theorem Qr(P:Params)(wi lo:U1 Bool)(gs:U2 Int)(os sl:List MV)(n:Nat)(ks:List Int)(ts:List MV)(gg many:Int)(ix:MV)(bs:List Int)(k:MV→St→aH):peek (ev 50 (lz P wi lo gs)) (lz P wi lo gs) (lV ((aL (KK P) 417).drop 7)) (m7 os sl n ks ts gg (wO ix many bs)) k=k (.int (os.length:Nat)) (m7 os sl n ks ts gg (wO ix many bs)):=by kernel_rfl
theorem Qv(P:Params)(wi lo:U1 Bool)(gs:U2 Int)(os sl:List MV)(n:Nat)(ks:List Int)(ts:List MV)(gg i many:Int)(bs:List Int)(k:St→aH):bF 51 (lz P wi lo gs) (Dv P) (m7 os sl n ks ts gg (wO (.int i) many bs)) k=
 ea (.list os) (.int i) fun t=>lo t fun b=>bif b then(gs (AK os sl n ks ts many) (.int i) fun s=>eN .In (.int s) (.dict n ks ts) fun c=>bif c then
  (gs (AK os sl n ks ts many) (.int i) fun s=>ea (.dict n ks ts) (.int s) fun v=>zh (S "add") (.set bs) [v] fun r c'=>match r with
    | .none=>k ((m7 os sl n ks ts gg (wO (.int i) many bs)).put (.v (S "begins")) (.own c'))
    |_=>none)else k (m7 os sl n ks ts gg (wO (.int i) many bs)))else k (m7 os sl n ks ts gg (wO (.int i) many bs)):=by kernel_rfl
theorem Qu(P:Params)(wi lo:U1 Bool)(gs:U2 Int)(os sl:List MV)(n:Nat)(ks:List Int)(ts:List MV)(gg many:Int)(ix:MV)(k:St→aH):bF 52 (lz P wi lo gs) ((aL (KK P) 417).drop 8) (m7 os sl n ks ts gg (wO ix many [0])) k=
 k ((m7 os sl n ks ts gg (wO ix many [0]))++[(.a (S "subs"),.own (.list [.int 0]))]):=by kernel_rfl
theorem Qt(P:Params)(wi lo:U1 Bool)(gs:U2 Int)(os sl:List MV)(n:Nat)(ks:List Int)(ts:List MV)(gg many n0:Int)(ix:MV)(k:St→aH):bF 52 (lz P wi lo gs) ((aL (KK P) 417).drop 8) (m7 os sl n ks ts gg (wO ix many [0,n0])) k=
 k ((m7 os sl n ks ts gg (wO ix many [0,n0]))++[(.a (S "subs"),.own (.list ((sortI [0,n0]).map .int)))]):=by kernel_rfl
structure Od where
 t:MV
 ex:Bool
 br:Bool
 lo:Bool
 goal:Nat
 reads:List Int
 writes:List Int
 rd:List Int
 wr:List Int
 lk:Bool
structure PG(P:Params)(os:List Od)(n0:Nat):Prop where
 ok: ∀(i:Nat)(o:Od),os[i]? =some o→uB P o.t o.ex o.br o.lo ((o.goal:Int)-i-1) o.reads o.writes o.rd o.wr o.lk
 pos:1<n0
 n8:n0≤8
 le:n0≤os.length
 lim:os.length≤16
 Xm: ∀(i:Nat)(o:Od),os[i]? =some o→o.br=true→(i<n0→o.goal<n0)∧(n0≤i→n0≤o.goal∧o.goal<os.length)
 log: ∀(i:Nat)(o:Od),os[i]? =some o→o.lo=true→i<n0∧o.goal=n0∧n0<os.length
 Sy: ∀(i:Nat)(o:Od),os[i]? =some o→(o.ex=true↔(i+1=n0∨i+1=os.length))
 IK:n0<os.length→ ∃(i:Nat) (o:Od),os[i]? =some o∧o.lo=true
 H': ∀(i:Nat)(o:Od),os[i]? =some o→o.ex=true→o.br=false∧o.lo=false
 J': ∀(i:Nat)(o:Od),os[i]? =some o→o.br=true→o.lo=false
noncomputable abbrev ii(n:Nat):List MV:=nl (List.range n)
noncomputable abbrev pF(n:Nat):List Int:=(List.range n).map fun i:Nat=>(i:Int)
noncomputable abbrev cW(os:List Od):List MV:=os.map Od.t
noncomputable def lO(os:List Od)(n0:Nat):List Int:=if n0<os.length then[0,(n0:Int)]else[0]
noncomputable abbrev ax(os:List Od)(n0:Nat):MV:=aK (cW os) (ii os.length) os.length (pF os.length) (ii os.length) (os.length:Int) ((lO os n0).map .int)
noncomputable abbrev LK(os:List Od):MV:=AK (cW os) (ii os.length) os.length (pF os.length) (ii os.length) (os.length:Int)
theorem Ih:(pF n).length=n:=by exact(ai ..).trans (aG)
theorem mF:(ii n).length=n:=by exact(ai ..).trans (aG)
theorem Bd{n i:Nat}(h:i<n):(ii n)[i]? =some (.int (i:Int)):=by
 refine(bA).trans (ae (aq (by rw[aG];exact h)) (ae (List.getElem_range ..) ?_));rfl
theorem wb:(i:Int)∈pF n↔i<n:=by
 constructor
 .intro h
  obtain⟨j,hj,e⟩:=List.mem_map.mp h
  have:=db.mp hj
  lia
 .intro h;exact List.mem_map.mpr ⟨i,db.mpr h,rfl⟩
theorem oR: ∀{ks:List Int}{ts:List MV}{i:Int}{u:MV},i∉ks→ks.length=ts.length→gZ ks ts i u=(ks++[i],ts++[u])
 | [],[],i,u,_,_=>rfl
 |k::ks,[],i,u,_,h=>nomatch h
 | [],t::ts,i,u,_,h=>nomatch h
 |k::ks,t::ts,i,u,hn,h=>by
  have h1: ¬i=k:=fun e=>hn (by exact ae e (.head _))
  have:=oR (ks:=ks) (ts:=ts) (i:=i) (u:=u) (fun q=>hn (.tail _ q)) (by simpa using h)
  exact(az h1).trans (ae this rfl)
theorem uP: ∀{l:List Nat}{i:Nat},i∈l→xe (l.map fun i:Nat=>(i:Int)) (nl l) (i:Int)=some (.int (i:Int))
 |j::l,i,h=>by
  by_cases e:(i:Int)=(j:Int)
  .exact(aF e).trans (ae e rfl)
  .refine(az e).trans ?_
   rcases aA.mp h with rfl|h
   .exact absurd rfl e
   .exact uP h
theorem A8{n i:Nat}(h:i<n){k:MV→aH}:ea (.dict n (pF n) (ii n)) (.int (i:Int)) k=k (.int (i:Int)):=by
 refine(?_:(xe (pF n) (ii n) (i:Int)).bind k=_)
 exact ae (uP (db.mpr h)) rfl
section
variable{P:Params}{os:List Od}{n0:Nat}
theorem f6{o:Od}(h:os[i]? =some o):(cW os)[i]? =some o.t:=by refine(bA).trans (ae h ?_);rfl
theorem nN{o:Od}(h:os[i]? =some o):i<os.length:=(a8.mp h).1
theorem gp(h:i<os.length): ∃o,os[i]? =some o:=⟨os[i],aq h⟩
noncomputable def tA(P:Params):U2 Int:=K2 ed P (KR P (rV P)) 431
noncomputable def mZ(P:Params):U1 Int:=K1 ed P (bx [] []) 424
noncomputable def qq(P:Params):U2 Int:=K2 ed P (OA P (tA P)) 438
noncomputable def ri(P:Params):U2 Int:=K2 ed P (bx [] []) 445
noncomputable def Gz(P:Params):U2 Int:=K2 ed P (bx [] []) 452
theorem Es(X:PG P os n0){o:Od}(h:os[i]? =some o)(hg:(o.br||o.lo)=true):Tv (rV P) (cW os) (ii os.length) (i:Int)=some (.int (o.goal:Int),none):=by
 have hi:=nN h
 have lim:=X.lim
 refine(dP (by rw[mF];exact af ‹_› (aa rfl)) (Bd hi)).trans ?_
 refine(?_:(ea (.list (cW os)) (.int (i:Int)) fun t=>rV P t fun d=>some (MV.int ((i:Int)+1+d),none))=_)
 refine(dP (by rw[ai];exact af ‹_› (aa rfl)) (f6 h)).trans (((X.ok i o h).dist hg ..).trans ?_)
 have:(i:Int)+1+((o.goal:Int)-i-1)=o.goal:=by lia
 exact ae this rfl
theorem Eu(X:PG P os n0){o:Od}(h:os[i]? =some o)(hg:(o.br||o.lo)=true): ∀k,tA P (LK os) (.int (i:Int)) k=k (o.goal:Int):=
 cZ (T:=ed) ((Zl P (rV P) _ _ _ _ _ _ _).trans (Es X h hg))
theorem Et(X:PG P os n0){o:Od}(h:os[i]? =some o)(hg:(o.br||o.lo)=true): ∀k,tA P (ax os n0) (.int (i:Int)) k=k (o.goal:Int):=
 cZ (T:=ed) ((Zk P (rV P) _ _ _ _ _ _ _ _).trans (Es X h hg))
theorem ry(X:PG P os n0){o:Od}(h:os[i]? =some o)(hg:(o.br||o.lo)=true):o.goal<os.length:=by
 have hi:=nN h
 have le:=X.le
 induction hb:o.br using ag with
 |true=>
  obtain⟨a,b⟩:=X.Xm i o h hb
  by_cases q:i<n0
  .have:=a q;exact af ‹_› ‹_›
  .exact(b (by exact cG ‹_›)).2
 |false=>
  rw[hb]at hg
  obtain⟨a,b,c⟩:=X.log i o h hg
  lia
theorem qv(X:PG P os n0){o:Od}(h:os[i]? =some o)(hg:(o.br||o.lo)=true): ∀k,qq P (ax os n0) (.int (i:Int)) k=k (o.goal:Int):=
 cZ (T:=ed) (by
  refine(XI P (tA P) _ _ _ _ _ _ _ _).trans ?_
  exact(Et X h hg ..).trans ((A8 (ry X h hg)).trans rfl))
theorem lS: ∀k,mZ P (ax os n0) k=k (os.length:Int):=cZ (T:=ed) (x:=(os.length:Int)) (o:=cB P 60 (bx [] []) 424 [] false [ax os n0]) ((Zp P _ _ _ _ _ _ _).trans (by exact ae (ai ..) rfl))
noncomputable def dH(os:List Od)(n0 i:Nat):Nat:=if n0<os.length∧n0≤i then n0 else 0
theorem rJ: ∀k,ri P (ax os n0) (.int (i:Int)) k=k (dH os n0 i:Int):=cZ (T:=ed) (by
 delta ax lO dH
 by_cases h:n0<os.length
 .refine ae (aF h) ?_
  refine(XN P _ _ _ _ _ _ _ _).trans ?_
  by_cases q:n0≤i
  .exact ae (aF ⟨h,q⟩) (ae (aW (by exact Int.ofNat_le.mpr ‹_›)) rfl)
  .exact ae (az (fun z=>q z.2)) (ae (cz (by lia)) rfl)
 .refine ae (az h) (ae (az (fun z=>h z.1)) ?_)
  exact XO P _ _ _ _ _ _ _)
noncomputable def fX(os:List Od)(n0 s:Nat):Nat:=if n0<os.length∧s<n0 then n0 else os.length
theorem Jl{s:Nat}: ∀k,Gz P (ax os n0) (.int (s:Int)) k=k (fX os n0 s:Int):=cZ (T:=ed) (by
 have hs:decide ((0:Int)>(s:Int))=false:=by rfl
 delta ax lO fX
 by_cases h:n0<os.length
 .refine ae (aF h) ?_
  refine(XV P _ _ _ _ _ _ _ _).trans ?_
  refine ae hs ((bH ..).trans ?_)
  by_cases q:s<n0
  .exact ae (aF ⟨h,q⟩) (ae (aW (by exact c7.mpr ‹_›)) rfl)
  .exact ae (az (fun z=>q z.2)) (ae (cz (by lia)) (ae (ai ..) rfl))
 .refine ae (az h) (ae (az (fun z=>h z.1)) ?_)
  refine(XW P _ _ _ _ _ _ _).trans ?_
  rw[hs,bH,ai];rfl)
theorem FU(X:PG P os n0): ∃ix,∀K,dN (bF 54 (lz P (jN P) (fV P) (tA P)) (Dw P)) (S "index") ((List.range os.length).map fun i:Nat=>MV.int (i:Int)) (m7 (cW os) [] 0 [] [] 0 []) K=
 K (m7 (cW os) (ii os.length) os.length (pF os.length) (ii os.length) (os.length:Int) [(.v (S "index"),.aw ix)]):=by
 have lim:=X.lim
 obtain⟨bB,h1,h2⟩:=eF (B:=bF 54 (lz P (jN P) (fV P) (tA P)) (Dw P)) (x:=S "index") (fun j st=>(j=0∧st=m7 (cW os) [] 0 [] [] 0 [])∨ ∃ix,st=m7 (cW os) (ii j) j (pF j) (ii j) (j:Int) [(.v (S "index"),.aw ix)])
  (ts:=(List.range os.length).map fun i:Nat=>MV.int (i:Int)) (j:=0) (st:=m7 (cW os) [] 0 [] [] 0 []) (fun j t st ht hI=>by
    rw[aT]at hI ⊢
    obtain⟨rfl,hj⟩:=mL ht
    clear ht;obtain⟨o,ho⟩:=gp hj
    have step: ∀k,bF 54 (lz P (jN P) (fV P) (tA P)) (Dw P) (m7 (cW os) (ii j) j (pF j) (ii j) (j:Int) [(.v (S "index"),.aw (.int (j:Int)))]) k=k (m7 (cW os) (ii (j+1)) (j+1) (pF (j+1)) (ii (j+1)) ((j+1:Nat):Int) [(.v (S "index"),.aw (.int (j:Int)))]):=fun k=>by
     refine(Qw ..).trans (ae mF (ae (bo (by lia)) ((ao ..).trans ((ao ..).trans ((dP (by rw[ai];exact af ‹_› (aa rfl)) (f6 ho)).trans (((X.ok j o ho).fl.wide ..).trans ((bH ..).trans (ae (oR (fun h=>by have:=wb.mp h;exact absurd ‹_› (Nat.lt_irrefl _)) (by rw[Ih,mF])) ?_))))))))
     rw[show ii (j+1)=ii j++[.int (j:Int)] by delta ii nl;rw[List.range_succ,List.map_append];rfl,show pF (j+1)=pF j++[(j:Int)] by delta pF;rw[List.range_succ,List.map_append];rfl]
     rfl
    refine⟨?_,m7 (cW os) (ii (j+1)) (j+1) (pF (j+1)) (ii (j+1)) ((j+1:Nat):Int) [(.v (S "index"),.aw (.int (j:Int)))],.inr ⟨_,rfl⟩,fun k=>?_⟩
    .clear hj ho step;rcases hI with⟨rfl,rfl⟩|⟨ix,rfl⟩<;>rfl
    .refine Eq.trans ?_ (step k)
     clear hj ho step;rcases hI with⟨rfl,rfl⟩|⟨ix,rfl⟩<;>rfl)
  (.inl ⟨rfl,rfl⟩)
 rw[ai,aG,aT]at h1
 rcases h1 with⟨h,_⟩|⟨ix,rfl⟩
 .have:=X.pos;have:=X.le;lia
 .exact⟨ix,h2⟩
end
section
variable{P:Params}{os:List Od}{n0:Nat}
noncomputable def vF(os:List Od)(n0 j:Nat):List Int:=if(os.take j).any Od.lo then[0,(n0:Int)]else[0]
theorem Gp{os:List Od}{j:Nat}{o:Od}(h:os[j]? =some o):(os.take (j+1)).any Od.lo=((os.take j).any Od.lo||o.lo):=by
 rw[List.take_add_one,h,List.any_append];simp
theorem FT(X:PG P os n0){ix:MV}: ∃Ww,∀K,dN (bF 51 (lz P (jN P) (fV P) (tA P)) (Dv P)) (S "index") ((List.range os.length).map fun i:Nat=>MV.int (i:Int)) (m7 (cW os) (ii os.length) os.length (pF os.length) (ii os.length) (os.length:Int) (wO ix (os.length:Int) [0])) K=
 K (m7 (cW os) (ii os.length) os.length (pF os.length) (ii os.length) (os.length:Int) (wO Ww (os.length:Int) (lO os n0))):=by
 have lim:=X.lim
 obtain⟨bB,h1,h2⟩:=eF (B:=bF 51 (lz P (jN P) (fV P) (tA P)) (Dv P)) (x:=S "index") (fun j st=> ∃ix,st=m7 (cW os) (ii os.length) os.length (pF os.length) (ii os.length) (os.length:Int) (wO ix (os.length:Int) (vF os n0 j)))
  (ts:=(List.range os.length).map fun i:Nat=>MV.int (i:Int)) (j:=0) (st:=m7 (cW os) (ii os.length) os.length (pF os.length) (ii os.length) (os.length:Int) (wO ix (os.length:Int) [0])) (fun j t st ht hI=>by
    rw[aT]at hI ⊢
    obtain⟨rfl,hj⟩:=mL ht
    obtain⟨o,ho⟩:=gp hj
    obtain⟨ix,rfl⟩:=hI
    refine⟨rfl,m7 (cW os) (ii os.length) os.length (pF os.length) (ii os.length) (os.length:Int) (wO (.int (j:Int)) (os.length:Int) (vF os n0 (j+1))),⟨_,rfl⟩,fun k=>?_⟩
    refine Eq.trans (b:=bF 51 (lz P (jN P) (fV P) (tA P)) (Dv P) (m7 (cW os) (ii os.length) os.length (pF os.length) (ii os.length) (os.length:Int) (wO (.int (j:Int)) (os.length:Int) (vF os n0 j))) k) rfl ?_
    rw[Qv,dP (by rw[ai];exact af ‹_› (aa rfl)) (f6 ho),(X.ok j o ho).fl.loc]
    have hb:vF os n0 (j+1)=if((os.take j).any Od.lo||o.lo)=true then[0,(n0:Int)]else[0]:=by delta vF;rw[Gp ho]
    induction hl:o.lo using ag with
    |false=>rw[hl,Bool.or_false]at hb;rw[bH,hb];rfl
    |true=>
     obtain⟨q1,q2,q3⟩:=X.log j o ho hl
     rw[hl,Bool.or_true,aF rfl]at hb
     rw[ao,Eu X ho (by rw[hl,Bool.or_true]),q2]
     refine(?_:(bif decide ((n0:Int)∈pF os.length)then _ else _)=_)
     rw[aW (wb.mpr q3),ao,Eu X ho (by rw[hl,Bool.or_true]),q2,A8 q3,hb]
     have h0: ¬(n0:Int)∈[(0:Int)]:=by have:=X.pos;simp;exact Nat.ne_of_gt (Nat.zero_lt_of_lt ‹_›)
     have hm:zh (S "add") (.set (vF os n0 j)) [.int (n0:Int)]=fun k=>k .none (.set [0,(n0:Int)]):=by
      funext k
      delta vF
      induction (os.take j).any Od.lo using ag with
      |true=>
       rw[aF rfl]
       refine(?_:(bif decide ((n0:Int)∈[0,(n0:Int)])||_ then k .none (.set (if(n0:Int)∈[0,(n0:Int)]then[0,(n0:Int)]else _))else none)=_)
       rw[aF (by exact .tail _ (.head _)),aW (by exact .tail _ (.head _))];rfl
      |false=>
       rw[az (fun h=>nomatch h)]
       refine(?_:(bif decide ((n0:Int)∈[(0:Int)])||(decide ([(0:Int)].length<2)&&(decide (0≤(n0:Int))&&decide ((n0:Int)<64)))then k .none (.set (if(n0:Int)∈[(0:Int)]then _ else[(0:Int)]++[(n0:Int)]))else none)=_)
       rw[az h0,cz h0,aW (show(0:Int)≤(n0:Int) by exact Int.natCast_nonneg _),aW (show(n0:Int)<64 by lia)];rfl
     rw[hm];rfl)
  ⟨ix,rfl⟩
 rw[ai,aG,aT]at h1
 obtain⟨ix,rfl⟩:=h1
 refine⟨ix,fun K=>?_⟩
 rw[h2]
 have:vF os n0 os.length=lO os n0:=by
  delta vF lO
  rw[List.take_length]
  by_cases h:n0<os.length
  .obtain⟨i,o,ho,hl⟩:=X.IK h
   rw[aF h,aF (cg.mpr ⟨o,cv ho,hl⟩)]
  .rw[az h,az fun e=>?_]
   obtain⟨o,ho,hl⟩:=cg.mp e
   obtain⟨i,hi⟩:=List.mem_iff_getElem?.mp ho
   exact h (X.log i o hi hl).2.2
 rw[this]
end
noncomputable def Ov(st:St):aH:=bif N7 st then((iB st).bind fun q=>some (.inst 462 q.1 q.2,some .none))else none
theorem HJ{P:Params}{os:List Od}{n0:Nat}(X:PG P os n0):bF 60 (lz P (jN P) (fV P) (tA P)) (aL (KK P) 417) [(.v (S "self"),.me 462),(.v (S "orders"),.aw (.list (cW os)))] Ov=some (ax os n0,some .none):=by
 have lim:=X.lim
 have z:aQ (cW os).length=true:=bo (by rw[ai];exact af ‹_› (aa rfl))
 have hl:(cW os).length=os.length:=ai ..
 rw[eX (m:=55) 4,UC,z,ao]
 rw[kX (n:=53) (N:=os.length) (x:=S "index") (e:=lV ((aL (KK P) 417).drop 4)) (b:=Dw P) (r:=(aL (KK P) 417).drop 5) (by kernel_rfl) (by kernel_rfl) (by kernel_rfl) (by kernel_rfl) (by kernel_rfl) (fun K=>(Qs P (jN P) (fV P) (tA P) _ K).trans (by rw[hl])) (by exact af ‹_› (aa rfl))]
 obtain⟨ix,h1⟩:=FU X
 rw[h1,eX (m:=52) 2,UB]
 rw[kX (n:=50) (N:=os.length) (x:=S "index") (e:=lV ((aL (KK P) 417).drop 7)) (b:=Dv P) (r:=(aL (KK P) 417).drop 8) (by kernel_rfl) (by kernel_rfl) (by kernel_rfl) (by kernel_rfl) (by kernel_rfl) (fun K=>(Qr P (jN P) (fV P) (tA P) _ _ _ _ _ _ _ _ _ K).trans (by rw[hl])) (by exact af ‹_› (aa rfl))]
 obtain⟨Ww,h2⟩:=FT X (ix:=ix)
 refine(h2 _).trans ?_
 delta ax lO
 by_cases h:n0<os.length
 .rw[aF h]
  refine(Qt P _ _ _ _ _ _ _ _ _ _ _ _ _).trans ?_
  have:sortI [0,(n0:Int)]=[0,(n0:Int)]:=by
   refine(?_:(if(0:Int)≤(n0:Int)then[0,(n0:Int)]else(n0:Int)::jR 0 [])=_)
   rw[aF (by exact Int.natCast_nonneg _)]
  rw[this];rfl
 .rw[az h]
  refine(Qu P _ _ _ _ _ _ _ _ _ _ _ _).trans ?_
  rfl
noncomputable def uk(P:Params):U1 MV:=fun a k=>MU (bF 60 (lz P (jN P) (fV P) (tA P)) (aL (KK P) 417) [(.v (S "self"),.me 462),(.v (S "orders"),.aw a)] Ov) fun r Y=>k r
theorem Fh{P:Params}{os:List Od}{n0:Nat}(X:PG P os n0): ∀k,uk P (.list (cW os)) k=k (ax os n0):=fun k=>by delta uk;rw[HJ X];rfl
theorem KN(hD:Good D):eb D 23 462 (S "goal_slot") (s2 ed (tA D.w.params)):=m2 hD ed (by trivial) (dV hD (ay (L6 hD) (by trivial) bz) cX) (by kernel_rfl) (by kernel_rfl) (by kernel_rfl) (by kernel_rfl)
theorem zm(hD:Good D):eb D 21 462 (S "count") (s1 ed (mZ D.w.params)):=m1 hD ed (by trivial) (dV hD bz cX) (by kernel_rfl) (by kernel_rfl) (by kernel_rfl) (by kernel_rfl)
theorem BL(hD:Good D):eb D 24 462 (S "target") (s2 ed (qq D.w.params)):=m2 hD ed (by trivial) (dV hD bz (dM (KN hD) (by trivial) cX)) (by kernel_rfl) (by kernel_rfl) (by kernel_rfl) (by kernel_rfl)
theorem DD(hD:Good D):eb D 21 462 (S "sub_of") (s2 ed (ri D.w.params)):=m2 hD ed (by trivial) (dV hD bz cX) (by kernel_rfl) (by kernel_rfl) (by kernel_rfl) (by kernel_rfl)
theorem Oy(hD:Good D):eb D 21 462 (S "sub_end") (s2 ed (Gz D.w.params)):=m2 hD ed (by trivial) (dV hD bz cX) (by kernel_rfl) (by kernel_rfl) (by kernel_rfl) (by kernel_rfl)
theorem Fg{P:Params}{K:MV→Option MV→aH}{o:MV×Option MV}(h:(s1 mX (uk P)).run ts K=some o):(r5 P 60 (bx [(S "is_wide",s1 gb (jN P)),(S "is_local_call",s1 gb (fV P))] [((462,S "goal_slot"),s2 ed (tA P))]) 462 417 (S "self") [S "orders"] []).run ts K=some o:=by
 obtain⟨a,l,rfl,h⟩:=bL h
 obtain⟨rfl,h⟩:=cm h
 exact h
theorem Ma(hD:Good D):aV D 26 (S "Program") (s1 mX (uk D.w.params)):=by
 have tc:eE D 24 (bx [(S "is_wide",s1 gb (jN D.w.params)),(S "is_local_call",s1 gb (fV D.w.params))] [((462,S "goal_slot"),s2 ed (tA D.w.params))]):=dV hD (ay (L2 hD) (by trivial) (ay (AQ hD) (by trivial) bz)) (dM (KN hD) (by trivial) cX)
 have h:cS D 26 (.ref 462) (r5 D.w.params 60 _ 462 417 (S "self") [S "orders"] []):=pZ hD (by trivial) tc (by kernel_rfl) (by kernel_rfl) (by kernel_rfl) (by kernel_rfl) rfl
 exact fk hD h (by kernel_rfl) rfl rfl fun Y Y Y h=>Fg h
open PySem
noncomputable def dQ(s:List Bool×List Nat)(x:Nat):List Bool×List Nat:=if s.1.getD x true then s else(s.1.set x true,s.2++[x])
noncomputable def eA(bl:List Bool):Nat:=bl.countP fun b=> !b
theorem sE: ∀{bl:List Bool}{x:Nat},bl.getD x true=false→eA (bl.set x true)+1=eA bl
 | [],x,h=>by simp at h
 |b::bl,0,h=>by
  have:b=false:=by assumption
  clear h;subst this
  refine(?_:eA (true::bl)+1=eA (false::bl))
  unfold eA
  simp
 |b::bl,x+1,h=>by
  have h':bl.getD x true=false:=by assumption
  have ih:=sE h'
  refine(?_:eA (b::bl.set x true)+1=eA (b::bl))
  unfold eA at ih ⊢
  rw[List.countP_cons,List.countP_cons]
  lia
theorem zN(s:List Bool×List Nat)(x:Nat):eA (dQ s x).1+(dQ s x).2.length=eA s.1+s.2.length:=by
 unfold dQ
 induction h:s.1.getD x true using ag with
 |true=>rfl
 |false=>
  have:=sE h
  refine(?_:eA (s.1.set x true)+(s.2++[x]).length=_)
  rw[b0]
  simp only[bw,List.length_nil]
  lia
theorem qG: ∀(xs:List Nat)(s:List Bool×List Nat),eA (xs.foldl dQ s).1+(xs.foldl dQ s).2.length=eA s.1+s.2.length:=by
 intro l_
 induction l_ with
 |nil=>intro s;exact rfl
 |cons x xs ih=>intro s;exact(ih (dQ s x)).trans (zN s x)
theorem uE{s:List Bool×List Nat}{x j:Nat}(hx:x<s.1.length):(dQ s x).1.length=s.1.length∧((dQ s x).1.getD j true=true↔s.1.getD j true=true∨j=x)∧(∀w,w∈(dQ s x).2↔w∈s.2∨(w=x∧s.1.getD x true=false)):=by
 unfold dQ
 induction h:s.1.getD x true using ag with
 |true=>
  refine⟨rfl,⟨fun q=> .inl q,fun q=>?_⟩,fun w=>⟨fun q=> .inl q,fun q=>?_⟩⟩
  .rcases q with q|rfl
   .exact q
   .exact h
  .rcases q with q|⟨Y,q⟩
   .exact q
   .cases q
 |false=>
  refine⟨cP ..,?_,fun w=>?_⟩
  .refine(?_:(s.1.set x true).getD j true=true↔_)
   rw[aM,aM,List.getElem?_set]
   by_cases e:x=j
   .subst e;simp[hx]
   .have e': ¬j=x:=fun q=>e q.symm
    simp[e,e']
  .refine(?_:w∈s.2++[x]↔_)
   simp
structure zq(n:Nat)(nx:Nat→List Nat)(s:List Bool×List Nat):Prop where
 len:s.1.length=n
 lt: ∀w∈s.2,w<n
 zero:s.1.getD 0 true=true
 cl: ∀i,i<n→s.1.getD i true=true→i∈s.2∨ ∀j∈nx i,s.1.getD j true=true
theorem sD{nx:Nat→List Nat}: ∀(xs:List Nat)(s:List Bool×List Nat),s.1.length=n→(∀x∈xs,x<n)→
 (xs.foldl dQ s).1.length=n∧(∀j,(xs.foldl dQ s).1.getD j true=true↔s.1.getD j true=true∨j∈xs)∧(∀w,w∈s.2→w∈(xs.foldl dQ s).2)∧(∀w,w∈(xs.foldl dQ s).2→w∈s.2∨w∈xs)∧(∀w,w∈xs→s.1.getD w true=false→w∈(xs.foldl dQ s).2):=by
 intro l_
 induction l_ with
 |nil=>intro s h Y;exact⟨h,fun j=>⟨fun q=> .inl q,fun q=>q.elim id (fun q=>nomatch q)⟩,fun Y h=>h,fun Y h=> .inl h,fun Y h=>nomatch h⟩
 |cons x xs ih=>
  intro s h hx
  have IX:x<s.1.length:=by rw[h];exact hx x (.head _)
  obtain⟨a1,Y,a3⟩:=uE (j:=0) IX
  have a2: ∀j,(dQ s x).1.getD j true=true↔s.1.getD j true=true∨j=x:=fun j=>(uE (j:=j) IX).2.1
  obtain⟨b1,b2,b3,b4,b5⟩:=ih (dQ s x) (a1.trans h) fun y hy=>hx y (.tail _ hy)
  refine⟨b1,fun j=>?_,fun w hw=>b3 w ((a3 w).mpr (.inl hw)),fun w hw=>?_,fun w hw hf=>?_⟩
  .refine(?_:(xs.foldl dQ (dQ s x)).1.getD j true=true↔_)
   (refine(b2 ..).trans ?_;rw[a2,aA])
   constructor
   .rintro((q|q)|q)
    .exact .inl q
    .exact .inr (.inl q)
    .exact .inr (.inr q)
   .rintro(q|q|q)
    .exact .inl (.inl q)
    .exact .inl (.inr q)
    .exact .inr q
  .clear hx IX a1 a2 b1 b2 b3 b5;rcases b4 w hw with q|q
   .clear b4 hw;rcases(a3 w).mp q with q|⟨rfl,Y⟩
    .exact .inl q
    .exact .inr (.head _)
   .exact .inr (.tail _ q)
  .refine(?_:w∈(xs.foldl dQ (dQ s x)).2)
   by_cases e:w=x
   .clear hx IX a1 a2 b1 b2 b4 b5 hw;subst e;exact b3 w ((a3 w).mpr (.inr ⟨rfl,hf⟩))
   .rcases aA.mp hw with q|q
    .exact absurd q e
    .refine b5 w q ?_
     induction g:(dQ s x).1.getD w true using ag with
     |false=>rfl
     |true=>
      rcases(a2 w).mp g with g|g
      .rw[hf]at g;cases g
      .exact absurd g e
theorem HK{nx:Nat→List Nat}{bl:List Bool}{ws:List Nat}{a:Nat}(I:zq n nx (bl,ws++[a]))(hx: ∀x∈nx a,x<n):zq n nx ((nx a).foldl dQ (bl,ws)):=by
 obtain⟨b1,b2,b3,b4,b5⟩:=sD (nx:=nx) (nx a) (bl,ws) I.len hx
 refine⟨b1,fun w hw=>?_,(b2 0).mpr (.inl I.zero),fun i hi hs=>?_⟩
 .rcases b4 w hw with q|q
  .exact I.lt w (List.mem_append_left _ q)
  .exact hx w q
 .by_cases e:i=a
  .clear I hx b1 b3 b4 b5 hs;subst e
   exact .inr fun j hj=>(b2 j).mpr (.inr hj)
  .induction hb:bl.getD i true using ag with
   |true=>
    rcases I.cl i hi hb with q|q
    .rcases List.mem_append.mp q with q|q
     .exact .inl (b3 i q)
     .exact absurd (cj.mp q) e
    .exact .inr fun j hj=>(b2 j).mpr (.inl (q j hj))
   |false=>
    rcases(b2 i).mp hs with q|q
    .rw[show(bl,ws).1=bl from rfl,hb]at q;cases q
    .exact .inl (b5 i q hb)
noncomputable def OB(P:Params)(ie ij ib:U1 Bool)(tg:U2 Int):Cx:=bx [(S "is_exit",s1 gb ie),(S "is_jump",s1 gb ij),(S "is_branch",s1 gb ib)] [((462,S "target"),s2 ed tg)]
theorem O0(P:Params)(ie ij ib:U1 Bool)(tg:U2 Int)(os sl:List MV)(n:Nat)(ks:List Int)(ts:List MV)(many:Int)(bp:List MV)(a:Int):cB P 60 (OB P ie ij ib tg) 480 [] false [aK os sl n ks ts many bp,.int a]=
 ea (.list os) (.int a) fun t=>ie t fun b=>bif b then some (.list [],none)else ij t fun b=>bif b then(tg (aK os sl n ks ts many bp) (.int a) fun g=>some (.list [.int g],none))else ib t fun b=>bif b then
  (tg (aK os sl n ks ts many bp) (.int a) fun g=>bif g != a+1 then(tg (aK os sl n ks ts many bp) (.int a) fun g=>some (.list [.int (a+1),.int g],none))else some (.list [.int (a+1)],none))else some (.list [.int (a+1)],none):=by kernel_rfl
noncomputable def GP(P:Params):U2 (List MV):=K2 f9 P (OB P (xq P) (nk P) (jS P) (qq P)) 480
theorem Ox(hD:Good D):aV D 25 (S "successors") (s2 f9 (GP D.w.params)):=
 f2 hD f9 (by decide) (dV hD (ay (Ex hD) (by decide) (ay (zG hD) (by decide) (ay (xZ hD) (by decide) bz))) (dM (BL hD) (by decide) cX)) (by kernel_rfl) (by kernel_rfl) (by kernel_rfl) (by kernel_rfl)
noncomputable def eq(i:Nat)(o:Od):List Nat:=if o.ex then[]else if o.br&& !(o.goal==i+1)then[i+1,o.goal]else[i+1]
theorem xa{P:Params}{os:List Od}{n0:Nat}(X:PG P os n0){o:Od}(h:os[i]? =some o): ∀k,GP P (ax os n0) (.int (i:Int)) k=k (nl (eq i o)):=cZ (T:=f9) (by
 have hi:=nN h
 have lim:=X.lim
 have ok:=(X.ok i o h).fl
 refine(O0 P _ _ _ _ _ _ _ _ _ _ _ _).trans ?_
 refine(dP (by rw[ai];exact af ‹_› (aa rfl)) (f6 h)).trans ((ok.exit ..).trans ?_)
 unfold eq
 induction he:o.ex using ag with
 |true=>rfl
 |false=>
  rw[bH,ok.Ry,bH,ok.branch]
  induction hb:o.br using ag with
  |false=>rfl
  |true=>
   refine(ao ..).trans (ae (qv X h (by rw[hb];rfl) ..) (ae (qv X h (by rw[hb];rfl) ..) ?_))
   by_cases q:o.goal=i+1
   .rw[show((o.goal:Int) != (i:Int)+1)=false by simp;lia,show(o.goal==i+1)=true by simpa using q];rfl
   .rw[show((o.goal:Int) != (i:Int)+1)=true by simp;lia,show(o.goal==i+1)=false by simpa using q];rfl)
noncomputable def pN(P:Params)(lo:U1 Bool)(cn:U1 Int):Cx:={ bx [(S "is_local_call",s1 gb lo)] [((462,S "count"),s1 ed cn)]with sc:=dF (KK P) 485,own:=false }
noncomputable def C9(P:Params):Option Expr:=vy (aL (KK P) 485) 0
theorem Uw(P:Params)(lo:U1 Bool)(cn:U1 Int)(os sl:List MV)(n:Nat)(ks:List Int)(ts:List MV)(many:Int)(bp:List MV)(k:St→aH):bF 60 (pN P lo cn) (aL (KK P) 485) [(.v (S "program"),.aw (aK os sl n ks ts many bp))] k=
 cn (aK os sl n ks ts many bp) fun N=>bif eu N then bif aQ ((List.range (N-0).toNat).map fun i:Nat=>MV.int (0+(i:Int))).length then dS 57 (pN P lo cn) (S "at") (C9 P) ((List.range (N-0).toNat).map fun i:Nat=>MV.int (0+(i:Int))) [(.v (S "program"),.aw (aK os sl n ks ts many bp))] [] fun us=>some (.list us,none)else none else none:=by kernel_rfl
theorem Uy(P:Params)(lo:U1 Bool)(cn:U1 Int)(os sl:List MV)(n:Nat)(ks:List Int)(ts:List MV)(many:Int)(bp:List MV)(i:Int)(us acc:List MV)(k:List MV→aH):dS 57 (pN P lo cn) (S "at") (C9 P) (.int i::us) [(.v (S "program"),.aw (aK os sl n ks ts many bp))] acc k=
 ea (.list os) (.int i) fun t=>lo t fun b=>bif b then dS 57 (pN P lo cn) (S "at") (C9 P) us [(.v (S "program"),.aw (aK os sl n ks ts many bp)),(.v (S "at"),.aw (.int i))] (acc++[.int i]) k
  else dS 57 (pN P lo cn) (S "at") (C9 P) us [(.v (S "program"),.aw (aK os sl n ks ts many bp)),(.v (S "at"),.aw (.int i))] acc k:=by kernel_rfl
theorem Ux(P:Params)(lo:U1 Bool)(cn:U1 Int)(os sl:List MV)(n:Nat)(ks:List Int)(ts:List MV)(many:Int)(bp:List MV)(i:Int)(old:MV)(us acc:List MV)(k:List MV→aH):dS 57 (pN P lo cn) (S "at") (C9 P) (.int i::us) [(.v (S "program"),.aw (aK os sl n ks ts many bp)),(.v (S "at"),.aw old)] acc k=
 ea (.list os) (.int i) fun t=>lo t fun b=>bif b then dS 57 (pN P lo cn) (S "at") (C9 P) us [(.v (S "program"),.aw (aK os sl n ks ts many bp)),(.v (S "at"),.aw (.int i))] (acc++[.int i]) k
  else dS 57 (pN P lo cn) (S "at") (C9 P) us [(.v (S "program"),.aw (aK os sl n ks ts many bp)),(.v (S "at"),.aw (.int i))] acc k:=by kernel_rfl
noncomputable def Wi{β:Type}(s:Stmt)(k:Expr→List Stmt→β)(d:β):β:=if h:s.ctorIdx=11 then Stmt.While.elim (motive_2:=fun Y=>β) s h (fun t b Y Y=>k t b)else d
noncomputable def RD(b:List Stmt):Expr:=atS b 0 (.Constant .none 0 default) fun s=>Wi s (fun t Y=>t) (.Constant .none 0 default)
noncomputable def RE(b:List Stmt):List Stmt:=atS b 0 [] fun s=>Wi s (fun Y b=>b) []
theorem mR{l r b:List Stmt}{t:Expr}{k:St→aH}(h:l= .While t b [] (GH l).pos::r):bF (n+2) cx l st k=j4 (fH (ev n cx) cx n t) (bF n cx b) cx.wf st (fun st=>bF (n+1) cx r st k):=by
 obtain⟨p,rfl⟩: ∃p,l= .While t b [] p::r:=⟨_,h⟩
 rfl
noncomputable def iv(P:Params)(su:U2 (List MV))(lo:U1 Bool)(tg:U2 Int)(cn:U1 Int):Cx:={ bx [(S "successors",s2 f9 su),(S "is_local_call",s1 gb lo)] [((462,S "target"),s2 ed tg),((462,S "count"),s1 ed cn)]with sc:=dF (KK P) 490,own:=false }
noncomputable def zg(P:Params):Option Expr:=w6 (aL (KK P) 490) 0
noncomputable def G6(P:Params):Expr:=RD ((aL (KK P) 490).drop 3)
noncomputable def MW(P:Params):List Stmt:=RE ((aL (KK P) 490).drop 3)
noncomputable def IT(P:Params):List Stmt:=j1 (MW P) 3
noncomputable def pI(P:Params):Option Expr:=vy (aL (KK P) 490) 4
section
variable(P:Params)(su:U2 (List MV))(lo:U1 Bool)(tg:U2 Int)(cn:U1 Int)(os sl:List MV)(n:Nat)(ks:List Int)(ts:List MV)(many:Int)(bp:List MV)
noncomputable abbrev oh(T:MV)(bs ws:List MV)(tail:St):St:=(.v (S "program"),.aw T)::(.v (S "is_seen"),.own (.list bs))::(.v (S "waiting"),.own (.list ws))::tail
noncomputable abbrev wH(a:MV)(nx:Slot)(later:MV):St:=[(.v (S "at"),.aw a),(.v (S "nexts"),nx),(.v (S "later"),.aw later)]
theorem TU(k:St→aH):bF 60 (iv P su lo tg cn) ((aL (KK P) 490).take 3) [(.v (S "program"),.aw (aK os sl n ks ts many bp))] k=
 bif aQ os.length then dS 57 (iv P su lo tg cn) (S "_") (zg P) os [] [] fun us=>bif pC 0 us.length then k (oh (aK os sl n ks ts many bp) (us.set (Int.toNat 0) (.bool true)) [.int 0] [])else none else none:=by kernel_rfl
theorem PN(t:MV)(us acc:List MV)(k:List MV→aH):dS 57 (iv P su lo tg cn) (S "_") (zg P) (t::us) [] acc k=dS 57 (iv P su lo tg cn) (S "_") (zg P) us [(.v (S "_"),.aw t)] (acc++[.bool false]) k:=by kernel_rfl
theorem PM(t old:MV)(us acc:List MV)(k:List MV→aH):dS 57 (iv P su lo tg cn) (S "_") (zg P) (t::us) [(.v (S "_"),.aw old)] acc k=dS 57 (iv P su lo tg cn) (S "_") (zg P) us [(.v (S "_"),.aw t)] (acc++[.bool false]) k:=by kernel_rfl
theorem PJ(bs ws:List MV)(k:Bool→St→aH):fH (ev 55 (iv P su lo tg cn)) (iv P su lo tg cn) 55 (G6 P) (oh (aK os sl n ks ts many bp) bs ws []) k=k (!ws.isEmpty) (oh (aK os sl n ks ts many bp) bs ws []):=by kernel_rfl
theorem DO(bs ws:List MV)(a:MV)(nx:Slot)(later:MV)(k:Bool→St→aH):fH (ev 55 (iv P su lo tg cn)) (iv P su lo tg cn) 55 (G6 P) (oh (aK os sl n ks ts many bp) bs ws (wH a nx later)) k=k (!ws.isEmpty) (oh (aK os sl n ks ts many bp) bs ws (wH a nx later)):=by kernel_rfl
theorem TV(bs ws:List MV)(a:MV)(nx:Slot)(x:Int)(k:St→aH):bF 50 (iv P su lo tg cn) (IT P) (oh (aK os sl n ks ts many bp) bs ws (wH a nx (.int x))) k=
 ea (.list bs) (.int x) fun v=>match iW v with
  |some b=>bif !b then(bif pC x bs.length then bif aQ ws.length then k (oh (aK os sl n ks ts many bp) (bs.set x.toNat (.bool true)) (ws++[.int x]) (wH a nx (.int x)))else none else none)else k (oh (aK os sl n ks ts many bp) bs ws (wH a nx (.int x)))
  |none=>none:=by kernel_rfl
theorem Jp(bs ws:List MV)(k:St→aH):bF 55 (iv P su lo tg cn) (MW P) (oh (aK os sl n ks ts many bp) bs ws []) k=
 match ws.getLast? with
 |some t=>su (aK os sl n ks ts many bp) t fun l=>bif aQ l.length then ea (.list os) t fun o=>lo o fun b=>bif b then
   (tg (aK os sl n ks ts many bp) t fun g=>bif aQ l.length then bif aQ (l++[MV.int g]).length then dN (bF 50 (iv P su lo tg cn) (IT P)) (S "later") (l++[MV.int g]) (oh (aK os sl n ks ts many bp) bs ws.dropLast [(.v (S "at"),.aw t),(.v (S "nexts"),.aw (.list (l++[MV.int g])))]) k else none else none)
   else(bif aQ l.length then dN (bF 50 (iv P su lo tg cn) (IT P)) (S "later") l (oh (aK os sl n ks ts many bp) bs ws.dropLast [(.v (S "at"),.aw t),(.v (S "nexts"),.aw (.list l))]) k else none)else none
 |none=>none:=by kernel_rfl
theorem Jo(bs ws:List MV)(a:MV)(nx:MV)(later:MV)(k:St→aH):bF 55 (iv P su lo tg cn) (MW P) (oh (aK os sl n ks ts many bp) bs ws (wH a (.aw nx) later)) k=
 match ws.getLast? with
 |some t=>su (aK os sl n ks ts many bp) t fun l=>bif aQ l.length then ea (.list os) t fun o=>lo o fun b=>bif b then
   (tg (aK os sl n ks ts many bp) t fun g=>bif aQ l.length then bif aQ (l++[MV.int g]).length then dN (bF 50 (iv P su lo tg cn) (IT P)) (S "later") (l++[MV.int g]) (oh (aK os sl n ks ts many bp) bs ws.dropLast (wH t (.aw (.list (l++[MV.int g]))) later)) k else none else none)
   else(bif aQ l.length then dN (bF 50 (iv P su lo tg cn) (IT P)) (S "later") l (oh (aK os sl n ks ts many bp) bs ws.dropLast (wH t (.aw (.list l)) later)) k else none)else none
 |none=>none:=by kernel_rfl
theorem TS(bs ws:List MV)(a:MV)(RN:MV)(later:MV)(k:St→aH):bF 56 (iv P su lo tg cn) ((aL (KK P) 490).drop 4) (oh (aK os sl n ks ts many bp) bs ws (wH a (.aw RN) later)) k=
 cn (aK os sl n ks ts many bp) fun N=>bif eu N then bif aQ ((List.range (N-0).toNat).map fun i:Nat=>MV.int (0+(i:Int))).length then dS 53 (iv P su lo tg cn) (S "at") (pI P) ((List.range (N-0).toNat).map fun i:Nat=>MV.int (0+(i:Int))) [(.v (S "is_seen"),.ro (.list bs))] [] fun us=>some (.list us,none)else none else none:=by kernel_rfl
theorem PL(bs:List MV)(i:Int)(us acc:List MV)(k:List MV→aH):dS 53 (iv P su lo tg cn) (S "at") (pI P) (.int i::us) [(.v (S "is_seen"),.ro (.list bs))] acc k=
 ea (.list bs) (.int i) fun v=>match iW v with
  |some b=>bif b then dS 53 (iv P su lo tg cn) (S "at") (pI P) us [(.v (S "is_seen"),.ro (.list bs)),(.v (S "at"),.aw (.int i))] (acc++[.int i]) k else dS 53 (iv P su lo tg cn) (S "at") (pI P) us [(.v (S "is_seen"),.ro (.list bs)),(.v (S "at"),.aw (.int i))] acc k
  |none=>none:=by kernel_rfl
theorem PK(bs:List MV)(i:Int)(old:MV)(us acc:List MV)(k:List MV→aH):dS 53 (iv P su lo tg cn) (S "at") (pI P) (.int i::us) [(.v (S "is_seen"),.ro (.list bs)),(.v (S "at"),.aw old)] acc k=
 ea (.list bs) (.int i) fun v=>match iW v with
  |some b=>bif b then dS 53 (iv P su lo tg cn) (S "at") (pI P) us [(.v (S "is_seen"),.ro (.list bs)),(.v (S "at"),.aw (.int i))] (acc++[.int i]) k else dS 53 (iv P su lo tg cn) (S "at") (pI P) us [(.v (S "is_seen"),.ro (.list bs)),(.v (S "at"),.aw (.int i))] acc k
  |none=>none:=by kernel_rfl
end
noncomputable def vB(os:List Od)(i:Nat):Bool:=match os[i]? with
 |some o=>o.lo
 |none=>false
noncomputable def jn(os:List Od)(i:Nat):List Nat:=match os[i]? with
 |some o=>eq i o
 |none=>[]
noncomputable def qU(os:List Od)(i:Nat):List Nat:=match os[i]? with
 |some o=>eq i o++(if o.lo then[o.goal]else[])
 |none=>[]
noncomputable abbrev fw(bl:List Bool):List MV:=bl.map MV.bool
noncomputable abbrev iz(P:Params):Cx:=iv P (GP P) (fV P) (qq P) (mZ P)
section
variable{P:Params}{os:List Od}{n0:Nat}
set_option tactic.hygienic true in
theorem AY(X:PG P os n0){o:Od}(h:os[i]? =some o): ∀j∈eq i o,j<os.length:=by
 intro j hj
 have hi:=nN h
 unfold eq at hj
 induction he:o.ex using ag with
 |true=>rw[he,aF rfl]at hj;exact jZ hj
 |false=>
  have h1:i+1<os.length:=by
   have:=(X.Sy i o h)
   rw[he]at this
   by_cases q:i+1=os.length
   .exact absurd (this.mpr (.inr q)) (fun h=>nomatch h)
   .lia
  rw[he,az (fun h=>nomatch h)]at hj
  split at hj
  .rename_i hb
   have hb:o.br=true:=(aU _ _▸hb).1
   rcases aA.mp hj with rfl|hj
   .exact h1
   .exact ae (cj.mp hj) (ry X h (by exact ae hb rfl))
  .exact ae (cj.mp hj) h1
set_option tactic.hygienic true in
theorem xd(X:PG P os n0): ∀j∈qU os i,j<os.length:=by
 intro j hj
 unfold qU at hj
 split at hj
 .rename_i o h
  rcases List.mem_append.mp hj with hj|hj
  .exact AY X h j hj
  .split at hj
   .rename_i hl;exact ae (cj.mp hj) (ry X h (by exact ae hl ((Bool.or_true ..))))
   .exact jZ hj
 .exact jZ hj
theorem LQ(X:PG P os n0){bl:List Bool}(I:zq os.length (qU os) (bl,[])): ∀i,i<os.length→bl.getD i true=true:=by
 have go: ∀m i,i<m→i<os.length→bl.getD i true=true:=by
  intro m
  induction m with
  |zero=>intro i h;exact absurd ‹_› (Nat.not_lt_zero _)
  |succ m ih=>
   intro i hm hi
   cases i with
   |zero=>exact I.zero
   |succ i=>
    have Dk:i<os.length:=by exact ca ‹_›
    obtain⟨o,ho⟩:=gp Dk
    have cl: ∀j,j<m→j<os.length→ ∀x∈qU os j,bl.getD x true=true:=fun j hj hl x hx=>by
     rcases I.cl j hl (ih j hj hl)with q|q
     .exact jZ q
     .exact q x hx
    cases he:o.ex with
    |false=>
     refine cl i (by exact bf ‹_›) Dk (i+1) ?_
     unfold qU
     refine ae ho ?_
     refine List.mem_append_left _ ?_
     unfold eq
     refine ae he (ae (az (fun h=>nomatch h)) ?_)
     split
     .exact .head _
     .exact .head _
    |true=>
     have h2:i+1=n0:=by
      rcases(X.Sy i o ho).mp he with q|q
      .exact q
      .lia
     obtain⟨j,oj,hj,hl⟩:=X.IK (by lia)
     obtain⟨l1,l2,l3⟩:=X.log j oj hj hl
     refine ae h2 ?_
     refine cl j (by lia) (nN hj) n0 ?_
     unfold qU
     refine ae hj ?_
     exact List.mem_append_right _ (by exact ae hl (ae (aF rfl) (ae l2 (.head _))))
 exact fun i hi=>go (i+1) i (by exact bn _) hi
theorem mE{w:List Nat}{x:Nat}:nl (w++[x])=nl w++[.int (x:Int)]:=List.map_append ..
theorem u7{bl:List Bool}{x:Nat}(h:x<bl.length):(fw bl)[x]? =some (.bool (bl.getD x true)):=by
 rw[bA,aq h,aM,aq h];rfl
theorem vK{N:Nat}(hN:N≤100){xs:List Nat}{bl:List Bool}{ws:List Nat}{a nx:MV}(hb:bl.length=N)(hx: ∀x∈xs,x<N)(hm:eA bl+ws.length≤200)
 (gE:(st=oh (ax os n0) (fw bl) (nl ws) [(.v (S "at"),.aw a),(.v (S "nexts"),.aw nx)]∧xs≠[])∨ ∃later,st=oh (ax os n0) (fw bl) (nl ws) (wH a (.aw nx) later)):
 ∃later,∀K,dN (bF 50 (iz P) (IT P)) (S "later") (nl xs) st K=K (oh (ax os n0) (fw (xs.foldl dQ (bl,ws)).1) (nl (xs.foldl dQ (bl,ws)).2) (wH a (.aw nx) later)):=by
 obtain⟨bB,h1,h2⟩:=eF (B:=bF 50 (iz P) (IT P)) (x:=S "later") (fun j st=>(j=0∧st=oh (ax os n0) (fw bl) (nl ws) [(.v (S "at"),.aw a),(.v (S "nexts"),.aw nx)]∧xs≠[])∨ ∃later,st=oh (ax os n0) (fw ((xs.take j).foldl dQ (bl,ws)).1) (nl ((xs.take j).foldl dQ (bl,ws)).2) (wH a (.aw nx) later))
  (ts:=nl xs) (j:=0) (st:=st) (fun j t st ht hI=>by
    rw[aT]at hI ⊢
    rw[bA]at ht
    induction IY:xs[j]? using ab with
    |none=>rw[IY]at ht;exact nn ht
    |some x=>
     rw[IY]at ht
     have ht:t= .int (x:Int):=by obtain rfl:=b8 ht;rfl
     subst ht
     have Z5:=hx x (cv IY)
     have e:(xs.take (j+1)).foldl dQ (bl,ws)=dQ ((xs.take j).foldl dQ (bl,ws)) x:=by
      exact ae List.take_add_one (ae IY (List.foldl_append.trans rfl))
     have mm:=qG (xs.take j) (bl,ws)
     have ll:=(sD (n:=N) (nx:=fun Y=>[]) (xs.take j) (bl,ws) hb fun x h=>hx x (List.mem_of_mem_take h)).1
     generalize hs:(xs.take j).foldl dQ (bl,ws)=s at*
     clear IY;obtain⟨b1,w1⟩:=s
     have mm:eA b1+w1.length=eA bl+ws.length:=mm
     have ll:b1.length=N:=ll
     have step: ∀k,bF 50 (iz P) (IT P) (oh (ax os n0) (fw b1) (nl w1) (wH a (.aw nx) (.int (x:Int)))) k=k (oh (ax os n0) (fw (dQ (b1,w1) x).1) (nl (dQ (b1,w1) x).2) (wH a (.aw nx) (.int (x:Int)))):=fun k=>by
      refine(TV P _ _ _ _ _ _ _ _ _ _ _ _ _ _ _ _ k).trans ?_
      refine(dP (by rw[ai];lia) (u7 (by lia))).trans ?_
      refine(?_:(bif !(b1.getD x true)then _ else _)=_)
      unfold dQ
      induction q:b1.getD x true using ag with
      |true=>rfl
      |false=>
       rw[Bool.not_false,ao,ai,show pC (x:Int) b1.length=true by unfold pC;simp only[aU,a9];rw[show b1.length=N from‹_›];exact Nm (af ‹N≤100› (by decide)) ‹x<N›,ai,bo (by lia),ao,ao,bJ,←List.map_set]
       refine(?_:k (oh (ax os n0) (fw (b1.set x true)) (nl w1++[.int (x:Int)]) _)=_)
       exact ft mE rfl
     refine ae e ?_
     refine⟨?_,_,.inr ⟨.int (x:Int),rfl⟩,fun k=>Eq.trans ?_ (step k)⟩
     .clear hs e;rcases hI with⟨rfl,rfl,Y⟩|⟨l,rfl⟩<;>rfl
     .rcases hI with⟨rfl,rfl,Y⟩|⟨l,rfl⟩
      .have:(bl,ws)=(b1,w1):=hs
       clear hs e;obtain⟨rfl,rfl⟩:=cV this;rfl
      .rfl)
  (by rcases gE with h|⟨l,h⟩
      .exact .inl ⟨rfl,h.1,h.2⟩
      .exact .inr ⟨l,h⟩)
 have hl:(nl xs).length=xs.length:=ai ..
 rw[aT,hl,List.take_of_length_le (bn _)]at h1
 rcases h1 with⟨h,Y,lw⟩|⟨later,rfl⟩
 .exact absurd (bM.mp h) lw
 .exact⟨later,h2⟩
theorem HI(X:PG P os n0){bl:List Bool}{ws:List Nat}{a:Nat}(I:zq os.length (qU os) (bl,ws++[a]))(hm:eA bl+ws.length≤200)(ha:a<os.length)
 (gE:(st=oh (ax os n0) (fw bl) (nl (ws++[a])) []∧qU os a≠[])∨ ∃a0 nx later,st=oh (ax os n0) (fw bl) (nl (ws++[a])) (wH a0 (.aw nx) later)):
 ∃a' nx later,∀K,bF 55 (iz P) (MW P) st K=K (oh (ax os n0) (fw ((qU os a).foldl dQ (bl,ws)).1) (nl ((qU os a).foldl dQ (bl,ws)).2) (wH a' (.aw nx) later)):=by
 obtain⟨o,ho⟩:=gp ha
 have lim:=X.lim
 have qB:(nl (ws++[a])).getLast?=some (.int (a:Int)):=by refine ae mE ((List.getLast?_append).trans ?_);rfl
 have AO:(nl (ws++[a])).dropLast=nl ws:=by exact ae mE (List.dropLast_concat)
 have hsz: ∀{l:List Nat},l.length≤2→aQ (nl l).length=true:=fun h=>bo (by exact ae (ai ..) (af ‹_› (aa rfl)))
 have GD:(eq a o).length≤2:=by
  unfold eq
  split
  .trivial
  .split<;>simp
 have I3:=(X.ok a o ho).fl.loc
 have get: ∀k,ea (.list (cW os)) (.int (a:Int)) k=k o.t:=fun k=>dP (by exact ae (ai ..) (af ‹_› (aa rfl))) (f6 ho)
 have bd:=X.lim
 induction hl:o.lo using ag with
 |true=>
  have hn:qU os a=eq a o++[o.goal]:=by unfold qU;refine ae ho ?_;refine(?_:eq a o++(if o.lo=true then[o.goal]else[])=_);exact ae hl rfl
  have hz:aQ (nl (eq a o)++[MV.int (o.goal:Int)]).length=true:=bo (by refine ae b0 (ae (ai ..) ?_);simp only[bw,List.length_nil];exact aX ‹_› (aa rfl))
  rcases gE with⟨rfl,lw⟩|⟨a0,RN,vQ,rfl⟩
  .obtain⟨later,e⟩:=vK (P:=P) (n0:=n0) (N:=os.length) (by exact af ‹_› (aa rfl)) (xs:=qU os a) (bl:=bl) (ws:=ws) (a:= .int (a:Int)) (nx:= .list (nl (eq a o++[o.goal]))) I.len (xd X) hm (.inl ⟨rfl,lw⟩)
   refine⟨.int (a:Int),.list (nl (eq a o++[o.goal])),later,fun K=>?_⟩
   refine(Jp P _ _ _ _ _ _ _ _ _ _ _ _ _ K).trans ?_
   refine ae qB (ae AO ?_)
   refine(xa X ho _).trans ?_
   refine ae (hsz GD) ((ao ..).trans ((get ..).trans ((I3 ..).trans (ae hl ((ao ..).trans ((qv X ho (by rw[hl,Bool.or_true]) ..).trans (ae hz ((ao ..).trans ((ao ..).trans (ft mE (ft hn ?_)))))))))))
   rw[←hn]at e
   exact e K
  .obtain⟨later,e⟩:=vK (P:=P) (n0:=n0) (N:=os.length) (by exact af ‹_› (aa rfl)) (xs:=qU os a) (bl:=bl) (ws:=ws) (a:= .int (a:Int)) (nx:= .list (nl (eq a o++[o.goal]))) I.len (xd X) hm (.inr ⟨vQ,rfl⟩)
   refine⟨.int (a:Int),.list (nl (eq a o++[o.goal])),later,fun K=>?_⟩
   refine(Jo P _ _ _ _ _ _ _ _ _ _ _ _ _ _ _ _ K).trans ?_
   refine ae qB (ae AO ?_)
   refine(xa X ho _).trans ?_
   refine ae (hsz GD) ((ao ..).trans ((get ..).trans ((I3 ..).trans (ae hl ((ao ..).trans ((qv X ho (by rw[hl,Bool.or_true]) ..).trans (ae hz ((ao ..).trans ((ao ..).trans (ft mE (ft hn ?_)))))))))))
   rw[←hn]at e
   exact e K
 |false=>
  have hn:qU os a=eq a o:=by unfold qU;refine ae ho ?_;refine(?_:eq a o++(if o.lo=true then[o.goal]else[])=_);exact ae hl (bG _)
  rcases gE with⟨rfl,lw⟩|⟨a0,RN,vQ,rfl⟩
  .obtain⟨later,e⟩:=vK (P:=P) (n0:=n0) (N:=os.length) (by exact af ‹_› (aa rfl)) (xs:=qU os a) (bl:=bl) (ws:=ws) (a:= .int (a:Int)) (nx:= .list (nl (eq a o))) I.len (xd X) hm (.inl ⟨rfl,lw⟩)
   refine⟨.int (a:Int),.list (nl (eq a o)),later,fun K=>?_⟩
   refine(Jp P _ _ _ _ _ _ _ _ _ _ _ _ _ K).trans ?_
   refine ae qB (ae AO ?_)
   refine(xa X ho _).trans ?_
   refine ae (hsz GD) ((ao ..).trans ((get ..).trans ((I3 ..).trans (ae hl ((bH ..).trans ((ao ..).trans (ft hn ?_)))))))
   rw[←hn]at e
   exact e K
  .obtain⟨later,e⟩:=vK (P:=P) (n0:=n0) (N:=os.length) (by exact af ‹_› (aa rfl)) (xs:=qU os a) (bl:=bl) (ws:=ws) (a:= .int (a:Int)) (nx:= .list (nl (eq a o))) I.len (xd X) hm (.inr ⟨vQ,rfl⟩)
   refine⟨.int (a:Int),.list (nl (eq a o)),later,fun K=>?_⟩
   refine(Jo P _ _ _ _ _ _ _ _ _ _ _ _ _ _ _ _ K).trans ?_
   refine ae qB (ae AO ?_)
   refine(xa X ho _).trans ?_
   refine ae (hsz GD) ((ao ..).trans ((get ..).trans ((I3 ..).trans (ae hl ((bH ..).trans ((ao ..).trans (ft hn ?_)))))))
   rw[←hn]at e
   exact e K
end
section
variable{P:Params}{os:List Od}{n0:Nat}
theorem LR(X:PG P os n0):qU os 0≠[]:=by
 have pos:=X.pos
 have le:=X.le
 obtain⟨o,ho⟩:=gp (os:=os) (i:=0) (by lia)
 have he:o.ex=false:=by
  induction h:o.ex using ag with
  |false=>rfl
  |true=>rcases(X.Sy 0 o ho).mp h with q|q<;>lia
 unfold qU
 refine ae ho ?_
 intro h
 have h:eq 0 o++(if o.lo=true then[o.goal]else[])=[]:=h
 have h1:=(List.append_eq_nil_iff.mp h).1
 unfold eq at h1
 rw[he,az (fun h=>nomatch h)]at h1
 split at h1<;>cases h1
theorem Fd(X:PG P os n0): ∀(m g9:Nat){bl:List Bool}{ws:List Nat}{st:St},zq os.length (qU os) (bl,ws)→eA bl+ws.length=m→m≤200→m<g9→
 ((st=oh (ax os n0) (fw bl) (nl ws) []∧ws=[0])∨ ∃a nx later,st=oh (ax os n0) (fw bl) (nl ws) (wH a (.aw nx) later))→
 ∃Km a nx later,zq os.length (qU os) (Km,[])∧ ∀K,j4 (fH (ev 55 (iz P)) (iz P) 55 (G6 P)) (bF 55 (iz P) (MW P)) g9 st K=K (oh (ax os n0) (fw Km) [] (wH a (.aw nx) later)):=by
 intro m
 induction m with
 |zero=>
  intro g9 bl ws st I hm _ hf gE
  have hw:ws=[]:=bM.mp (by lia)
  clear hm;subst hw
  obtain⟨f,rfl⟩: ∃f,g9=f+1:=⟨g9-1,by exact Nl ‹_›⟩
  rcases gE with⟨_,h⟩|⟨a,nx,later,rfl⟩
  .cases h
  .exact⟨bl,a,nx,later,I,fun K=>(DO P _ _ _ _ _ _ _ _ _ _ _ _ _ _ _ _ _).trans rfl⟩
 |succ m ih=>
  intro g9 bl ws st I hm M0 hf gE
  obtain⟨f,rfl⟩: ∃f,g9=f+1:=⟨g9-1,by exact Xp ‹_›⟩
  rcases List.eq_nil_or_concat ws with rfl|⟨J6,a,rfl⟩
  .rcases gE with⟨_,h⟩|⟨a,nx,later,rfl⟩
   .cases h
   .exact⟨bl,a,nx,later,I,fun K=>(DO P _ _ _ _ _ _ _ _ _ _ _ _ _ _ _ _ _).trans rfl⟩
  .rw[List.concat_eq_append]at*
   have ha:a<os.length:=I.lt a (List.mem_append_right _ (.head _))
   rw[b0]at hm
   simp only[bw,List.length_nil]at hm
   have lw:(!(nl (J6++[a])).isEmpty)=true:=by refine ae mE ?_;induction nl J6 using aO<;>rfl
   obtain⟨a',X5,LZ,e⟩:=HI (P:=P) X (bl:=bl) (ws:=J6) (a:=a) I (by lia) ha (st:=st) (by
    clear I hm lw;rcases gE with⟨rfl,h⟩|⟨a,nx,later,rfl⟩
    .left
     refine⟨rfl,?_⟩
     have:a=0:=by
      induction J6 using aO with
      |nil=>simpa using h
      |cons x r=>have:=aB List.length h;simp at this
     exact ae this (LR X)
    .exact .inr ⟨a,nx,later,rfl⟩)
   have I':=HK I (xd X (i:=a))
   have mm:=qG (qU os a) (bl,J6)
   generalize hs:(qU os a).foldl dQ (bl,J6)=s at*
   clear hs;obtain⟨b1,w1⟩:=s
   have mm:eA b1+w1.length=eA bl+J6.length:=mm
   obtain⟨Km,a2,X4,LY,I2,e2⟩:=ih f (bl:=b1) (ws:=w1) I' (by lia) (by exact ca ‹_›) (by exact bf ‹_›) (.inr ⟨a',X5,LZ,rfl⟩)
   refine⟨Km,a2,X4,LY,I2,fun K=>?_⟩
   refine ft (e2 K) ?_
   rcases gE with⟨rfl,h⟩|⟨a0,RN,vQ,rfl⟩
   .refine(PJ P _ _ _ _ _ _ _ _ _ _ _ _ _ _).trans ?_
    exact ae lw ((ao ..).trans ((e ..)))
   .refine(DO P _ _ _ _ _ _ _ _ _ _ _ _ _ _ _ _ _).trans ?_
    exact ae lw ((ao ..).trans ((e ..)))
theorem Fe{k:List MV→aH}: ∀(us:List MV)(old:MV)(acc:List MV),dS 57 (iz P) (S "_") (zg P) us [(.v (S "_"),.aw old)] acc k=k (acc++List.replicate us.length (.bool false)):=by
 intro l_
 induction l_ with
 |nil=>intro old acc;refine(eO (by kernel_rfl)).trans ?_;refine(?_:_=k (acc++[]));exact ae (bG ..) rfl
 |cons t us ih=>
  intro old acc
  refine(PM P _ _ _ _ t old us acc k).trans ?_
  exact(ih ..).trans (ae (bE ..) rfl)
theorem Ce{k:List MV→aH}(us:List MV):dS 57 (iz P) (S "_") (zg P) us [] [] k=k (List.replicate us.length (.bool false)):=by
 induction us using aO with
 |nil=>exact(eO (by kernel_rfl)).trans rfl
 |cons t us=>
  refine(PN P _ _ _ _ t us [] k).trans ?_
  exact(Fe us ..).trans rfl
theorem HH{bl:List Bool}(hb:bl.length≤1000){k:List MV→aH}: ∀(l:List Nat)(_: ∀i∈l,i<bl.length∧bl.getD i true=true){st:St}(_:st=[(.v (S "is_seen"),.ro (.list (fw bl)))]∨ ∃old,st=[(.v (S "is_seen"),.ro (.list (fw bl))),(.v (S "at"),.aw old)])(acc:List MV),
 dS 53 (iz P) (S "at") (pI P) (nl l) st acc k=k (acc++nl l):=by
 intro l_
 induction l_ with
 |nil=>intro _ st hs acc;exact ae (show nl []=[]from rfl) ((eO (by kernel_rfl)).trans (ae (bG ..) rfl))
 |cons i l ih=>
  intro h st hs acc
  obtain⟨h1,h2⟩:=h i (.head _)
  have go: ∀k',(ea (.list (fw bl)) (.int (i:Int)) fun v=>match iW v with|some b=>bif b then dS 53 (iz P) (S "at") (pI P) (nl l) [(.v (S "is_seen"),.ro (.list (fw bl))),(.v (S "at"),.aw (.int (i:Int)))] (acc++[.int (i:Int)]) k' else dS 53 (iz P) (S "at") (pI P) (nl l) [(.v (S "is_seen"),.ro (.list (fw bl))),(.v (S "at"),.aw (.int (i:Int)))] acc k'|none=>none)=dS 53 (iz P) (S "at") (pI P) (nl l) [(.v (S "is_seen"),.ro (.list (fw bl))),(.v (S "at"),.aw (.int (i:Int)))] (acc++[.int (i:Int)]) k':=fun k'=>by
   exact(dP (by rw[ai];exact hb) (u7 h1)).trans (ae h2 rfl)
  have fin:dS 53 (iz P) (S "at") (pI P) (nl l) [(.v (S "is_seen"),.ro (.list (fw bl))),(.v (S "at"),.aw (.int (i:Int)))] (acc++[.int (i:Int)]) k=k (acc++nl (i::l)):=by
   exact ae (ih (fun j hj=>h j (.tail _ hj)) (.inr ⟨_,rfl⟩) ..) (ae (bE ..) rfl)
  rcases hs with rfl|⟨old,rfl⟩
  .exact((PL P _ _ _ _ _ _ _ _ _).trans (go k)).trans fin
  .exact((PK P _ _ _ _ _ _ _ _ _ _).trans (go k)).trans fin
theorem Cc:List.replicate n (MV.bool false)=fw (List.replicate n false):=(List.map_replicate ..).symm
theorem Fb(X:PG P os n0):cB P 60 (bx [(S "successors",s2 f9 (GP P)),(S "is_local_call",s1 gb (fV P))] [((462,S "target"),s2 ed (qq P)),((462,S "count"),s1 ed (mZ P))]) 490 [] false [ax os n0]=some (.list (ii os.length),none):=by
 refine fh (st:=[(.v (S "program"),.aw (ax os n0))]) (by kernel_rfl) fun k=>?_
 refine(?_:bF 60 (iz P) (aL (KK P) 490) [(.v (S "program"),.aw (ax os n0))] k=_)
 have lim:=X.lim
 have pos:=X.pos
 have le:=X.le
 have hl:(cW os).length=os.length:=ai ..
 refine(eX (m:=56) 3).trans ?_
 refine(TU P _ _ _ _ _ _ _ _ _ _ _ _).trans ?_
 rw[hl,bo (by exact af ‹_› (aa rfl)),ao,Ce,cM,hl,show pC 0 os.length=true by unfold pC;simp only[aU,a9];lia,ao,Cc]
 refine(?_:bF (55+2) (iz P) ((aL (KK P) 490).drop 3) (oh (ax os n0) ((fw (List.replicate os.length false)).set 0 (.bool true)) (nl [0]) []) k=_)
 refine ft List.map_set ((mR (t:=G6 P) (b:=MW P) (r:=(aL (KK P) 490).drop 4) (by kernel_rfl)).trans ?_)
 have I:zq os.length (qU os) ((List.replicate os.length false).set 0 true,[0]):=by
  refine⟨by exact cP.trans (cM),fun w hw=>by refine ae (cj.mp hw) ?_;lia,?_,fun i hi h=>?_⟩
  .refine(?_:((List.replicate os.length false).set 0 true).getD 0 true=true)
   refine(aM).trans (ae (List.getElem?_set) (ae (aF rfl) (ae cM (ae (aF (by lia)) ?_))));rfl
  .by_cases e:i=0
   .exact .inl (by exact ae e (.head _))
   .exfalso
    have h:((List.replicate os.length false).set 0 true).getD i true=true:=h
    rw[aM,List.getElem?_set_ne (fun q=>e q.symm),List.getElem?_replicate,aF hi]at h
    exact ew h
 have cnt:eA ((List.replicate os.length false).set 0 true)+[0].length≤200:=by
  have:=List.countP_le_length (p:=fun b=> !b) (l:=(List.replicate os.length false).set 0 true)
  rw[cP,cM]at this
  unfold eA
  simp only[bw,List.length_nil]
  lia
 obtain⟨Km,a,nx,later,I',e⟩:=Fd (P:=P) X _ 3000 I rfl cnt (by exact aX ‹_› (aa rfl)) (.inl ⟨rfl,rfl⟩)
 refine(e _).trans ?_
 refine(TS P _ _ _ _ _ _ _ _ _ _ _ _ _ _ _ _ _).trans ?_
 refine ae (show aK (cW os) (ii os.length) os.length (pF os.length) (ii os.length) (os.length:Int) ((lO os n0).map .int)=ax os n0 from rfl) ((lS ..).trans (ae (et (by exact Int.natCast_nonneg _) (by lia)) ((ao ..).trans ?_)))
 have hb:Km.length=os.length:=I'.len
 refine(?_:(bif aQ (hK os.length).length then dS 53 (iz P) (S "at") (pI P) (hK os.length) [(.v (S "is_seen"),.ro (.list (fw Km)))] [] _ else none)=_)
 refine ae je (ae (ai ..) (ae aG (ae (bo (by exact af ‹_› (aa rfl))) ((ao ..).trans ?_))))
 exact(HH (by lia) (List.range os.length) (fun i hi=>⟨by rw[hb];exact db.mp hi,LQ X I' i (db.mp hi)⟩) (.inl rfl) ..).trans rfl
end
section
variable{P:Params}{os:List Od}{n0:Nat}
noncomputable def IS(P:Params):U1 (List MV):=K1 f9 P (bx [(S "successors",s2 f9 (GP P)),(S "is_local_call",s1 gb (fV P))] [((462,S "target"),s2 ed (qq P)),((462,S "count"),s1 ed (mZ P))]) 490
theorem UZ(hD:Good D):aV D 26 (S "reachable") (s1 f9 (IS D.w.params)):=
 f1 hD f9 (by decide) (dV hD (ay (Ox hD) (by decide) (ay (AQ hD) (by decide) bz)) (dM (BL hD) (by decide) (dM (zm hD) (by decide) cX))) (by kernel_rfl) (by kernel_rfl) (by kernel_rfl) (by kernel_rfl)
theorem LA(X:PG P os n0): ∀k,IS P (ax os n0) k=k (ii os.length):=cZ (T:=f9) (Fb X)
noncomputable def wU(P:Params):U1 (List MV):=K1 f9 P (bx [(S "is_local_call",s1 gb (fV P))] [((462,S "count"),s1 ed (mZ P))]) 485
theorem JR(hD:Good D):aV D 25 (S "local_calls") (s1 f9 (wU D.w.params)):=
 f1 hD f9 (by decide) (dV hD (ay (AQ hD) (by decide) bz) (dM (zm hD) (by decide) cX)) (by kernel_rfl) (by kernel_rfl) (by kernel_rfl) (by kernel_rfl)
theorem uq{o:Od}(h:os[i]? =some o):vB os i=o.lo:=by unfold vB;exact ae h rfl
theorem FO(X:PG P os n0){k:List MV→aH}: ∀(l:List Nat)(_: ∀i∈l,i<os.length){st:St}(_:st=[(.v (S "program"),.aw (ax os n0))]∨ ∃old,st=[(.v (S "program"),.aw (ax os n0)),(.v (S "at"),.aw old)])(acc:List MV),
 dS 57 (pN P (fV P) (mZ P)) (S "at") (C9 P) (nl l) st acc k=k (acc++nl (l.filter (vB os))):=by
 intro l_
 induction l_ with
 |nil=>intro _ st hs acc;rw[show nl []=[]from rfl,eO (by kernel_rfl),List.filter_nil];refine(?_:_=k (acc++[]));exact ae (bG ..) rfl
 |cons i l ih=>
  intro h st hs acc
  obtain⟨o,ho⟩:=gp (h i (.head _))
  have lim:=X.lim
  have fin: ∀acc,dS 57 (pN P (fV P) (mZ P)) (S "at") (C9 P) (nl l) [(.v (S "program"),.aw (ax os n0)),(.v (S "at"),.aw (.int (i:Int)))] acc k=k (acc++nl (l.filter (vB os))):=fun acc=>ih (fun j hj=>h j (.tail _ hj)) (.inr ⟨_,rfl⟩) acc
  have go:(ea (.list (cW os)) (.int (i:Int)) fun t=>fV P t fun b=>bif b then dS 57 (pN P (fV P) (mZ P)) (S "at") (C9 P) (nl l) [(.v (S "program"),.aw (ax os n0)),(.v (S "at"),.aw (.int (i:Int)))] (acc++[.int (i:Int)]) k else dS 57 (pN P (fV P) (mZ P)) (S "at") (C9 P) (nl l) [(.v (S "program"),.aw (ax os n0)),(.v (S "at"),.aw (.int (i:Int)))] acc k)=k (acc++nl ((i::l).filter (vB os))):=by
   refine(dP (by rw[ai];exact af ‹_› (aa rfl)) (f6 ho)).trans (((X.ok i o ho).fl.loc ..).trans (ae List.filter_cons (ae (uq ho) ?_)))
   induction o.lo using ag with
   |true=>exact(ao ..).trans ((fin ..).trans (ae (aF rfl) (ae (bE ..) rfl)))
   |false=>exact(bH ..).trans ((fin ..).trans (ae (az (fun h=>nomatch h)) rfl))
  rcases hs with rfl|⟨old,rfl⟩
  .exact(Uy P _ _ _ _ _ _ _ _ _ _ _ _ _).trans go
  .exact(Ux P _ _ _ _ _ _ _ _ _ _ _ _ _ _).trans go
noncomputable def locs(os:List Od):List Nat:=(List.range os.length).filter (vB os)
theorem Ib(X:PG P os n0):cB P 60 (bx [(S "is_local_call",s1 gb (fV P))] [((462,S "count"),s1 ed (mZ P))]) 485 [] false [ax os n0]=some (.list (nl (locs os)),none):=by
 refine fh (st:=[(.v (S "program"),.aw (ax os n0))]) (by kernel_rfl) fun k=>?_
 have lim:=X.lim
 refine(Uw P (fV P) (mZ P) _ _ _ _ _ _ _ k).trans ?_
 refine ae (show aK (cW os) (ii os.length) os.length (pF os.length) (ii os.length) (os.length:Int) ((lO os n0).map .int)=ax os n0 from rfl) ((lS ..).trans (ae (et (by exact Int.natCast_nonneg _) (by lia)) ((ao ..).trans ?_)))
 refine(?_:(bif aQ (hK os.length).length then dS 57 (pN P (fV P) (mZ P)) (S "at") (C9 P) (hK os.length) [(.v (S "program"),.aw (ax os n0))] [] _ else none)=_)
 refine ae je (ae (ai ..) (ae aG (ae (bo (by exact af ‹_› (aa rfl))) ((ao ..).trans ?_))))
 exact(FO X (List.range os.length) (fun i hi=>db.mp hi) (.inl rfl) ..).trans rfl
theorem vP(X:PG P os n0): ∀k,wU P (ax os n0) k=k (nl (locs os)):=fun k=>cZ (T:=f9) (x:=nl (locs os)) (o:=cB P 60 (bx [(S "is_local_call",s1 gb (fV P))] [((462,S "count"),s1 ed (mZ P))]) 485 [] false [ax os n0]) (Ib X) k
theorem l5:i∈locs os↔ ∃o,os[i]? =some o∧o.lo=true:=by
 (refine List.mem_filter.trans ?_;rw[db])
 constructor
 .rintro⟨h,q⟩
  obtain⟨o,ho⟩:=gp h
  rw[uq ho]at q
  exact⟨o,ho,q⟩
 .rintro⟨o,ho,q⟩
  exact⟨nN ho,by exact(uq ho).trans (q)⟩
theorem FJ(X:PG P os n0)(h: ¬n0<os.length):locs os=[]:=List.eq_nil_iff_forall_not_mem.mpr fun i hi=>by
 obtain⟨o,ho,q⟩:=l5.mp hi
 exact h (X.log i o ho q).2.2
theorem A9(X:PG P os n0)(h:n0<os.length):locs os≠[]:=fun e=>by
 obtain⟨i,o,ho,q⟩:=X.IK h
 have:=l5.mpr ⟨o,ho,q⟩
 rw[e]at this;exact jZ this
noncomputable def BO(P:Params)(lo:U1 Bool)(tg se:U2 Int):Cx:={ bx [(S "is_local_call",s1 gb lo)] [((462,S "target"),s2 ed tg),((462,S "sub_end"),s2 ed se)]with sc:=dF (KK P) 497,own:=false }
noncomputable def Sj(P:Params):List Stmt:=j1 (aL (KK P) 497) 1
noncomputable abbrev GL(T sub:MV)(is:List Int)(tail:St):St:=(.v (S "program"),.aw T)::(.v (S "sub"),.aw sub)::(.v (S "found"),.own (.set is))::tail
theorem Vl(P:Params)(lo:U1 Bool)(tg se:U2 Int)(os sl:List MV)(n:Nat)(ks:List Int)(ts:List MV)(many:Int)(bp:List MV)(s:Int)(k:St→aH):bF 60 (BO P lo tg se) (aL (KK P) 497) [(.v (S "program"),.aw (aK os sl n ks ts many bp)),(.v (S "sub"),.aw (.int s))] k=
 se (aK os sl n ks ts many bp) (.int s) fun e=>bif eu s&&eu e then bif aQ ((List.range (e-s).toNat).map fun i:Nat=>MV.int (s+(i:Int))).length then
  dN (bF 57 (BO P lo tg se) (Sj P)) (S "at") ((List.range (e-s).toNat).map fun i:Nat=>MV.int (s+(i:Int))) (GL (aK os sl n ks ts many bp) (.int s) [] []) (fun st=>bF 58 (BO P lo tg se) ((aL (KK P) 497).drop 2) st k)else none else none:=by kernel_rfl
theorem Vn(P:Params)(lo:U1 Bool)(tg se:U2 Int)(os sl:List MV)(n:Nat)(ks:List Int)(ts:List MV)(many:Int)(bp:List MV)(s:MV)(is:List Int)(i:Int)(k:St→aH):bF 57 (BO P lo tg se) (Sj P) (GL (aK os sl n ks ts many bp) s is [(.v (S "at"),.aw (.int i))]) k=
 ea (.list os) (.int i) fun t=>lo t fun b=>bif b then(tg (aK os sl n ks ts many bp) (.int i) fun g=>zh (S "add") (.set is) [.int g] fun r c'=>match r with
  | .none=>k ((GL (aK os sl n ks ts many bp) s is [(.v (S "at"),.aw (.int i))]).put (.v (S "found")) (.own c'))
  |_=>none)else k (GL (aK os sl n ks ts many bp) s is [(.v (S "at"),.aw (.int i))]):=by kernel_rfl
theorem Vm(P:Params)(lo:U1 Bool)(tg se:U2 Int)(T s:MV)(is:List Int)(a:MV)(k:St→aH):bF 58 (BO P lo tg se) ((aL (KK P) 497).drop 2) (GL T s is [(.v (S "at"),.aw a)]) k=bif decide (is.length≤8)then some (.list ((sortI is).map .int),none)else none:=by kernel_rfl
end
section
variable{P:Params}{os:List Od}{n0:Nat}
noncomputable def nt(os:List Od)(s j:Nat):Bool:=(List.range j).any fun i=>vB os (s+i)
noncomputable abbrev JV(P:Params):Cx:=BO P (fV P) (qq P) (Gz P)
theorem MM(h:n0≤8){b:Bool}{k:MV→MV→aH}:zh (S "add") (.set (if b=true then[(n0:Int)]else[])) [.int (n0:Int)] k=k .none (.set [(n0:Int)]):=by
 induction b using ag with
 |true=>
  refine(?_:(bif decide ((n0:Int)∈[(n0:Int)])||_ then k .none (.set (if(n0:Int)∈[(n0:Int)]then[(n0:Int)]else _))else none)=_)
  have hm:(n0:Int)∈[(n0:Int)]:= .head _
  exact ae (aW hm) (ae (aF hm) rfl)
 |false=>
  refine(?_:(bif decide ((n0:Int)∈([]:List Int))||(decide (([]:List Int).length<2)&&(decide (0≤(n0:Int))&&decide ((n0:Int)<64)))then k .none (.set (if(n0:Int)∈([]:List Int)then[]else[]++[(n0:Int)]))else none)=_)
  exact ae (az (fun h=>nomatch h)) (ae (cz (fun h=>nomatch h)) (ae (aW (show(0:Int)≤(n0:Int) by exact Int.natCast_nonneg _)) (ae (aW (show(n0:Int)<64 by lia)) rfl)))
theorem EJ(X:PG P os n0){s:Nat}(hs:s<fX os n0 s)(he:fX os n0 s≤os.length):cB P 60 (bx [(S "is_local_call",s1 gb (fV P))] [((462,S "target"),s2 ed (qq P)),((462,S "sub_end"),s2 ed (Gz P))]) 497 [] false [ax os n0,.int (s:Int)]=
 some (.list ((if nt os s (fX os n0 s-s)=true then[(n0:Int)]else[]).map .int),none):=by
 refine fh (st:=[(.v (S "program"),.aw (ax os n0)),(.v (S "sub"),.aw (.int (s:Int)))]) (by kernel_rfl) fun k=>?_
 have lim:=X.lim
 have n8:=X.n8
 refine(Vl P (fV P) (qq P) (Gz P) _ _ _ _ _ _ _ _ k).trans ?_
 refine(Jl _).trans ?_
 generalize fX os n0 s=e at*
 rw[et (by exact Int.natCast_nonneg _) (by lia),et (by exact Int.natCast_nonneg _) (by lia),Bool.and_self,ao,show(((e:Nat):Int)-(s:Int)).toNat=e-s by exact Xu,ai,aG,bo (af (Nat.sub_le ..) (af he (af lim (by decide)))),ao]
 obtain⟨bB,h1,h2⟩:=eF (B:=bF 57 (JV P) (Sj P)) (x:=S "at") (fun j st=>(j=0∧st=GL (ax os n0) (.int (s:Int)) [] [])∨ ∃a,st=GL (ax os n0) (.int (s:Int)) (if nt os s j=true then[(n0:Int)]else[]) [(.v (S "at"),.aw a)])
  (ts:=(List.range (e-s)).map fun i:Nat=>MV.int ((s:Int)+(i:Int))) (j:=0) (st:=GL (ax os n0) (.int (s:Int)) [] []) (fun j t st ht hI=>by
    rw[aT]at hI ⊢
    rw[bA]at ht
    induction hj:(List.range (e-s))[j]? using ab with
    |none=>rw[hj]at ht;exact nn ht
    |some j'=>
     obtain⟨YU,WL⟩:=a8.mp hj
     rw[aG]at YU
     rw[List.getElem_range]at WL
     subst WL
     rw[hj]at ht
     have ht:t= .int (((s+j:Nat):Nat):Int):=by obtain rfl:=b8 ht;exact aB MV.int (by rfl)
     subst ht
     obtain⟨o,ho⟩:=gp (os:=os) (i:=s+j) (by exact bT (V9 ‹_›) ‹_›)
     have hn:nt os s (j+1)=(nt os s j||o.lo):=by
      unfold nt
      exact ae List.range_succ (List.any_append.trans (ae bO (ae List.any_nil (ae (Bool.or_false ..) (ae (uq ho) rfl)))))
     have step: ∀k,bF 57 (JV P) (Sj P) (GL (ax os n0) (.int (s:Int)) (if nt os s j=true then[(n0:Int)]else[]) [(.v (S "at"),.aw (.int ((s+j:Nat):Int)))]) k=k (GL (ax os n0) (.int (s:Int)) (if nt os s (j+1)=true then[(n0:Int)]else[]) [(.v (S "at"),.aw (.int ((s+j:Nat):Int)))]):=fun k=>by
      refine(Vn P _ _ _ _ _ _ _ _ _ _ _ _ _ k).trans ?_
      refine(dP (by rw[ai];exact af ‹_› (aa rfl)) (f6 ho)).trans (((X.ok _ o ho).fl.loc ..).trans (ae hn ?_))
      induction hl:o.lo using ag with
      |false=>exact(bH ..).trans (ae (Bool.or_false ..) rfl)
      |true=>
       refine(ao ..).trans ?_
       refine(qv X ho (by exact ae hl ((Bool.or_true ..))) _).trans ?_
       exact ae ((X.log _ o ho hl).2.1) ((MM n8).trans (ae (Bool.or_true ..) (ae (aF rfl) rfl)))
     refine⟨?_,_,.inr ⟨_,rfl⟩,fun k=>Eq.trans ?_ (step k)⟩
     .clear ho hn step;rcases hI with⟨rfl,rfl⟩|⟨a,rfl⟩<;>rfl
     .rcases hI with⟨rfl,rfl⟩|⟨a,rfl⟩<;>rfl)
  (.inl ⟨rfl,rfl⟩)
 refine(h2 _).trans ?_
 rw[ai,aG,aT]at h1
 clear h2;rcases h1 with⟨h,_⟩|⟨a,rfl⟩
 .exact absurd h (Nat.sub_ne_zero_of_lt hs)
 .refine(Vm P _ _ _ _ _ _ _ _).trans ?_
  cases nt os s (e-s)<;>rfl
noncomputable def Kl(P:Params):U2 (List MV):=K2 f9 P (bx [(S "is_local_call",s1 gb (fV P))] [((462,S "target"),s2 ed (qq P)),((462,S "sub_end"),s2 ed (Gz P))]) 497
theorem U8(hD:Good D):aV D 25 (S "calls_of") (s2 f9 (Kl D.w.params)):=
 f2 hD f9 (by decide) (dV hD (ay (AQ hD) (by decide) bz) (dM (BL hD) (by decide) (dM (Oy hD) (by decide) cX))) (by kernel_rfl) (by kernel_rfl) (by kernel_rfl) (by kernel_rfl)
theorem Vp(X:PG P os n0)(h:n0<os.length): ∀k,Kl P (ax os n0) (.int 0) k=k [.int (n0:Int)]:=fun k=>by
 have pos:=X.pos
 have e:fX os n0 0=n0:=by exact aF ⟨h,by exact ca ‹_›⟩
 have r:=EJ X (s:=0) (by exact ae e (ca ‹_›)) (by exact ae e (ca ‹_›))
 rw[e]at r
 have:nt os 0 (n0-0)=true:=by
  obtain⟨i,o,ho,hl⟩:=X.IK h
  refine cg.mpr ⟨i,db.mpr (X.log i o ho hl).1,?_⟩
  exact ae (aT ..) ((uq ho).trans (hl))
 rw[this,aF rfl]at r
 exact cZ (T:=f9) (x:=[.int (n0:Int)]) (o:=cB P 60 (bx [(S "is_local_call",s1 gb (fV P))] [((462,S "target"),s2 ed (qq P)),((462,S "sub_end"),s2 ed (Gz P))]) 497 [] false [ax os n0,.int 0]) r k
theorem Vo(X:PG P os n0)(h:n0<os.length): ∀k,Kl P (ax os n0) (.int (n0:Int)) k=k []:=fun k=>by
 have e:fX os n0 n0=os.length:=by unfold fX;exact ae (az (fun z=>Nat.lt_irrefl _ z.2)) rfl
 have r:=EJ X (s:=n0) (by refine ae e ?_;assumption) (by exact ae e (bn _))
 rw[e]at r
 have:nt os n0 (os.length-n0)=false:=by
  rw[Bool.eq_false_iff]
  intro q
  obtain⟨i,hi,hl⟩:=cg.mp q
  have hi:=db.mp hi
  obtain⟨o,ho⟩:=gp (os:=os) (i:=n0+i) (by exact V9 ‹_›)
  rw[uq ho]at hl
  have:=(X.log _ o ho hl).1
  lia
 rw[this,az (fun h=>nomatch h)]at r
 exact cZ (T:=f9) (x:=[]) (o:=cB P 60 (bx [(S "is_local_call",s1 gb (fV P))] [((462,S "target"),s2 ed (qq P)),((462,S "sub_end"),s2 ed (Gz P))]) 497 [] false [ax os n0,.int (n0:Int)]) r k
end
noncomputable def KU(P:Params)(co:U2 (List MV)):Cx:={ bx [(S "calls_of",s2 f9 co)] []with sc:=dF (KK P) 502,own:=false }
section
variable(P:Params)(co:U2 (List MV))(os sl:List MV)(n:Nat)(ks:List Int)(ts:List MV)(many:Int)
theorem Vx(n0:Int)(k:St→aH):bF 60 (KU P co) ((aL (KK P) 502).take 1) [(.v (S "program"),.aw (aK os sl n ks ts many [.int 0,.int n0]))] k=
 co (aK os sl n ks ts many [.int 0,.int n0]) (.int 0) fun l0=>co (aK os sl n ks ts many [.int 0,.int n0]) (.int n0) fun l1=>k [(.v (S "program"),.aw (aK os sl n ks ts many [.int 0,.int n0])),(.v (S "direct"),.own (.dict 2 (gZ [0] [.list l0] n0 (.list l1)).1 (gZ [0] [.list l0] n0 (.list l1)).2))]:=by kernel_rfl
noncomputable def I9(P:Params)(co:U2 (List MV))(os sl:List MV)(n:Nat)(ks:List Int)(ts:List MV)(many:Int)(n0:Int):Prop:= ∀k,bF 59 (KU P co) ((aL (KK P) 502).drop 1) [(.v (S "program"),.aw (aK os sl n ks ts many [.int 0,.int n0])),(.v (S "direct"),.own (.dict 2 [0,n0] [.list [.int n0],.list []]))] k=
 some (.dict 2 [0,n0] [.set [n0],.set []],none)
theorem VE:I9 P co os sl n ks ts many 2:=fun k=>by kernel_rfl
theorem VD:I9 P co os sl n ks ts many 3:=fun k=>by kernel_rfl
theorem VC:I9 P co os sl n ks ts many 4:=fun k=>by kernel_rfl
theorem VB:I9 P co os sl n ks ts many 5:=fun k=>by kernel_rfl
theorem VA:I9 P co os sl n ks ts many 6:=fun k=>by kernel_rfl
theorem Vz:I9 P co os sl n ks ts many 7:=fun k=>by kernel_rfl
theorem Vy:I9 P co os sl n ks ts many 8:=fun k=>by kernel_rfl
theorem Vw{n0:Nat}(h1:1<n0)(h2:n0≤8):I9 P co os sl n ks ts many (n0:Int):=by
 have:n0=2∨n0=3∨n0=4∨n0=5∨n0=6∨n0=7∨n0=8:=(by decide: ∀n,n<9→1<n→n=2∨n=3∨n=4∨n=5∨n=6∨n=7∨n=8) n0 (Nat.lt_succ_of_le h2) h1
 clear h1 h2;rcases this with rfl|rfl|rfl|rfl|rfl|rfl|rfl
 .exact VE P co os sl n ks ts many
 .exact VD P co os sl n ks ts many
 .exact VC P co os sl n ks ts many
 .exact VB P co os sl n ks ts many
 .exact VA P co os sl n ks ts many
 .exact Vz P co os sl n ks ts many
 .exact Vy P co os sl n ks ts many
end
noncomputable def rf:Ty Unit:=⟨fun Y=> .none,fun t=>match t with| .none=>some ()|_=>none,fun t a h=>(by induction t using MV.casesOn<;>first|(obtain rfl:=b8 h;rfl)|exact nn h),fun Y=>rfl⟩
theorem ku{P:Params}{f:Addr}{st bB:St}(e:d6 fg (rB (KK P) f) [] ts []=st)
 (h: ∀k,bF 60 { cx with sc:=dF (KK P) f,own:=false } (aL (KK P) f) st k=k bB) (hl:ci bB=none):cB P 60 cx f [] false ts=some (.none,none):=by
 subst e
 refine(?_:bF 60 _ _ _ _=_)
 exact(h ..).trans (ae hl rfl)
noncomputable def Sq(P:Params):U1 MV:=K1 mX P (bx [(S "calls_of",s2 f9 (Kl P))] []) 502
theorem Vc(hD:Good D):aV D 26 (S "called_by") (s1 mX (Sq D.w.params)):=
 f1 hD mX (by decide) (dV hD (ay (U8 hD) (by decide) bz) cX) (by kernel_rfl) (by kernel_rfl) (by kernel_rfl) (by kernel_rfl)
section
variable{P:Params}{os:List Od}{n0:Nat}
theorem zy(h:n0<os.length):ax os n0=aK (cW os) (ii os.length) os.length (pF os.length) (ii os.length) (os.length:Int) [.int 0,.int (n0:Int)]:=by
 delta ax lO;exact ae (aF h) rfl
theorem LL(h: ¬n0<os.length):ax os n0=aK (cW os) (ii os.length) os.length (pF os.length) (ii os.length) (os.length:Int) [.int 0]:=by
 delta ax lO;exact ae (az h) rfl
theorem MD(X:PG P os n0)(h:n0<os.length):cB P 60 (bx [(S "calls_of",s2 f9 (Kl P))] []) 502 [] false [ax os n0]=some (.dict 2 [0,(n0:Int)] [.set [(n0:Int)],.set []],none):=by
 refine fh (st:=[(.v (S "program"),.aw (ax os n0))]) (by kernel_rfl) fun k=>?_
 refine(?_:bF (58+1+1) (KU P (Kl P)) _ _ _=_)
 have c0:=Vp X h
 have c1:=Vo X h
 rw[zy h]at c0 c1 ⊢
 refine(eX (m:=58) 1).trans ?_
 refine(Vx P _ _ _ _ _ _ _ _ _).trans ?_
 refine(c0 ..).trans ((c1 ..).trans (ae (oR (by have:=X.pos;simp;exact Nat.ne_of_gt (Nat.zero_lt_of_lt ‹_›)) rfl) ?_))
 exact Vw P _ _ _ _ _ _ _ X.pos X.n8 k
theorem Rj(X:PG P os n0)(h:n0<os.length): ∀k,Sq P (ax os n0) k=k (.dict 2 [0,(n0:Int)] [.set [(n0:Int)],.set []]):=fun k=>
 cZ (T:=mX) (x:= .dict 2 [0,(n0:Int)] [.set [(n0:Int)],.set []]) (o:=cB P 60 (bx [(S "calls_of",s2 f9 (Kl P))] []) 502 [] false [ax os n0]) (MD X h) k
end
noncomputable def pO(P:Params)(lc:U1 (List MV))(so tg:U2 Int):Cx:={ bx [(S "local_calls",s1 f9 lc)] [((462,S "sub_of"),s2 ed so),((462,S "target"),s2 ed tg)]with sc:=dF (KK P) 507,own:=false }
noncomputable def TB(P:Params):Expr:=RD ((aL (KK P) 507).drop 2)
noncomputable def Se(P:Params):List Stmt:=RE ((aL (KK P) 507).drop 2)
noncomputable def Nb(P:Params):List Stmt:=j1 (Se P) 1
section
variable(P:Params)(lc:U1 (List MV))(so tg:U2 Int)(os sl:List MV)(n:Nat)(ks:List Int)(ts:List MV)(many:Int)(bp:List MV)
noncomputable abbrev om(T:MV)(m:Nat)(ks:List Int)(us:List MV)(ch:Bool)(tail:St):St:=(.v (S "program"),.aw T)::(.v (S "counts"),.own (.dict m ks us))::(.v (S "is_changed"),.aw (.bool ch))::tail
noncomputable abbrev vg(a many other:MV):St:=[(.v (S "at"),.aw a),(.v (S "many"),.aw many),(.v (S "other"),.aw other)]
theorem UX(n0:Int)(k:St→aH):bF 60 (pO P lc so tg) ((aL (KK P) 507).take 2) [(.v (S "program"),.aw (aK os sl n ks ts many [.int 0,.int n0]))] k=
 k (om (aK os sl n ks ts many [.int 0,.int n0]) 2 (gZ [0] [.int 1] n0 (.int 1)).1 (gZ [0] [.int 1] n0 (.int 1)).2 true []):=by kernel_rfl
theorem QY(m:Nat)(cs:List Int)(us:List MV)(ch:Bool)(k:Bool→St→aH):fH (ev 56 (pO P lc so tg)) (pO P lc so tg) 56 (TB P) (om (aK os sl n ks ts many bp) m cs us ch []) k=k ch (om (aK os sl n ks ts many bp) m cs us ch []):=by kernel_rfl
theorem JO(m:Nat)(cs:List Int)(us:List MV)(ch:Bool)(a mn ot:MV)(k:Bool→St→aH):fH (ev 56 (pO P lc so tg)) (pO P lc so tg) 56 (TB P) (om (aK os sl n ks ts many bp) m cs us ch (vg a mn ot)) k=k ch (om (aK os sl n ks ts many bp) m cs us ch (vg a mn ot)):=by kernel_rfl
theorem Q1(m:Nat)(cs:List Int)(us:List MV)(ch:Bool)(k:St→aH):bF 56 (pO P lc so tg) (Se P) (om (aK os sl n ks ts many bp) m cs us ch []) k=
 lc (aK os sl n ks ts many bp) fun l=>bif aQ l.length then dN (bF 53 (pO P lc so tg) (Nb P)) (S "at") l (om (aK os sl n ks ts many bp) m cs us false []) k else none:=by kernel_rfl
theorem Q0(m:Nat)(cs:List Int)(us:List MV)(ch:Bool)(a mn ot:MV)(k:St→aH):bF 56 (pO P lc so tg) (Se P) (om (aK os sl n ks ts many bp) m cs us ch (vg a mn ot)) k=
 lc (aK os sl n ks ts many bp) fun l=>bif aQ l.length then dN (bF 53 (pO P lc so tg) (Nb P)) (S "at") l (om (aK os sl n ks ts many bp) m cs us false (vg a mn ot)) k else none:=by kernel_rfl
noncomputable def Sc(so tg:U2 Int)(T:MV)(m:Nat)(cs:List Int)(us:List MV)(ch:Bool)(i:Int)(k:St→aH):aH:=
 so T (.int i) fun s=>ea (.dict m cs us) (.int s) fun c=>m5 .Add c (.int 1) fun Y mn=>tg T (.int i) fun g=>ea (.dict m cs us) (.int g) fun c2=>eN .Lt c2 mn fun b=>
  bif b then(bif aQ m then k (om T (m+1) (gZ cs us g mn).1 (gZ cs us g mn).2 true (vg (.int i) mn (.int g)))else none)else k (om T m cs us ch (vg (.int i) mn (.int g)))
theorem JP(m:Nat)(cs:List Int)(us:List MV)(ch:Bool)(i:Int)(k:St→aH):bF 53 (pO P lc so tg) (Nb P) (om (aK os sl n ks ts many bp) m cs us ch [(.v (S "at"),.aw (.int i))]) k=Sc so tg (aK os sl n ks ts many bp) m cs us ch i k:=by kernel_rfl
theorem D5(m:Nat)(cs:List Int)(us:List MV)(ch:Bool)(i:Int)(mn ot:MV)(k:St→aH):bF 53 (pO P lc so tg) (Nb P) (om (aK os sl n ks ts many bp) m cs us ch (vg (.int i) mn ot)) k=Sc so tg (aK os sl n ks ts many bp) m cs us ch i k:=by kernel_rfl
theorem UY(m:Nat)(cs:List Int)(us:List MV)(ch:Bool)(a mn ot:MV)(k:St→aH):bF 57 (pO P lc so tg) ((aL (KK P) 507).drop 3) (om (aK os sl n ks ts many bp) m cs us ch (vg a mn ot)) k=some (.dict m cs us,none):=by kernel_rfl
end
theorem dW{T:St→(Bool→St→aH)→aH}{B:St→(St→aH)→aH}{k:St→aH}:j4 T B (n+1) st k=T st fun b st=>bif b then B st fun st=>j4 T B n st k else k st:=rfl
section
variable{P:Params}{os:List Od}{n0:Nat}
noncomputable abbrev rW(P:Params):Cx:=pO P (wU P) (ri P) (qq P)
noncomputable abbrev dk(n0:Nat):List Int:=[0,(n0:Int)]
noncomputable abbrev dv(c:Int):List MV:=[.int 1,.int c]
theorem En{m n0:Nat}{c:Int}{k:MV→aH}:ea (.dict m (dk n0) (dv c)) (.int ((0:Nat):Int)) k=k (.int 1):=rfl
theorem L0{m n0:Nat}(h:1<n0){c:Int}{k:MV→aH}:ea (.dict m (dk n0) (dv c)) (.int (n0:Int)) k=k (.int c):=by
 refine(?_:((if(n0:Int)=0 then some (MV.int 1)else if(n0:Int)=(n0:Int)then some (MV.int c)else none).bind k)=_)
 exact ae (az (by lia)) (ae (aF rfl) rfl)
theorem LJ{n0:Nat}(h:1<n0){c d:Int}:gZ (dk n0) (dv c) (n0:Int) (.int d)=(dk n0,dv d):=by
 refine(?_:(if(n0:Int)=0 then _ else(0::(gZ [(n0:Int)] [.int c] (n0:Int) (.int d)).1,MV.int 1::(gZ [(n0:Int)] [.int c] (n0:Int) (.int d)).2))=_)
 refine(az (by lia)).trans ?_
 have:gZ [(n0:Int)] [.int c] (n0:Int) (.int d)=([(n0:Int)],[.int d]):=by
  refine(?_:(if(n0:Int)=(n0:Int)then((n0:Int)::[],MV.int d::[])else _)=_)
  exact aF rfl
 exact ae this rfl
theorem KL(X:PG P os n0){c:Int}{ch:Bool}{o:Od}(ho:os[i]? =some o)(hl:o.lo=true)(hm:m≤1000){k:St→aH}:
 Sc (ri P) (qq P) (ax os n0) m (dk n0) (dv c) ch (i:Int) k=bif decide (c<2)then k (om (ax os n0) (m+1) (dk n0) (dv 2) true (vg (.int (i:Int)) (.int 2) (.int (n0:Int))))else k (om (ax os n0) m (dk n0) (dv c) ch (vg (.int (i:Int)) (.int 2) (.int (n0:Int)))):=by
 obtain⟨l1,l2,l3⟩:=X.log i o ho hl
 have pos:=X.pos
 have hs:dH os n0 i=0:=by unfold dH;exact(az (fun z=>by lia))
 unfold Sc
 refine(rJ ..).trans (ae hs (En.trans ?_))
 refine(?_:(qq P (ax os n0) (.int (i:Int)) fun g=>ea (.dict m (dk n0) (dv c)) (.int g) fun c2=>eN .Lt c2 (.int 2) fun b=>bif b then(bif aQ m then k (om (ax os n0) (m+1) (gZ (dk n0) (dv c) g (.int 2)).1 (gZ (dk n0) (dv c) g (.int 2)).2 true (vg (.int (i:Int)) (.int 2) (.int g)))else none)else k (om (ax os n0) m (dk n0) (dv c) ch (vg (.int (i:Int)) (.int 2) (.int g))))=_)
 refine(qv X ho (by rw[hl,Bool.or_true]) ..).trans (ae l2 ((L0 pos).trans ?_))
 refine(?_:(bif decide (c<2)then _ else _)=_)
 exact ae (LJ pos) (ae (bo (by exact af ‹_› (aa rfl))) rfl)
theorem EA(X:PG P os n0)(h:n0<os.length){c:Int}(hc:c=1∨c=2)(hm:m≤900)(gE:st=om (ax os n0) m (dk n0) (dv c) false []∨ ∃a mn ot,st=om (ax os n0) m (dk n0) (dv c) false (vg a mn ot)):
 ∃m' a mn ot,m'≤m+1∧ ∀K,dN (bF 53 (rW P) (Nb P)) (S "at") (nl (locs os)) st K=K (om (ax os n0) m' (dk n0) (dv 2) (decide (c<2)) (vg a mn ot)):=by
 obtain⟨bB,h1,h2⟩:=eF (B:=bF 53 (rW P) (Nb P)) (x:=S "at") (fun j st=>(j=0∧(st=om (ax os n0) m (dk n0) (dv c) false []∨ ∃a mn ot,st=om (ax os n0) m (dk n0) (dv c) false (vg a mn ot)))∨ ∃m' a mn ot,m'≤m+1∧st=om (ax os n0) m' (dk n0) (dv 2) (decide (c<2)) (vg a mn ot))
  (ts:=nl (locs os)) (j:=0) (st:=st) (fun j t st ht hI=>by
    rw[aT]at hI ⊢
    rw[bA]at ht
    clear gE;induction hj:(locs os)[j]? using ab with
    |none=>rw[hj]at ht;exact nn ht
    |some i=>
     rw[hj]at ht
     have ht:t= .int (i:Int):=by obtain rfl:=b8 ht;rfl
     subst ht
     obtain⟨o,ho,hl⟩:=l5.mp (cv hj)
     clear hj;rcases hI with⟨rfl,hI⟩|⟨m',a,mn,ot,M1,rfl⟩
     .rcases hc with rfl|rfl
      .refine⟨by rcases hI with rfl|⟨a,mn,ot,rfl⟩<;>rfl,om (ax os n0) (m+1) (dk n0) (dv 2) true (vg (.int (i:Int)) (.int 2) (.int (n0:Int))),.inr ⟨m+1,_,_,_,bn _,rfl⟩,fun k=>?_⟩
       have e:=KL X (c:=1) (ch:=false) (m:=m) ho hl (by exact af ‹_› (aa rfl)) (k:=k)
       rcases hI with rfl|⟨a,mn,ot,rfl⟩
       .exact(JP P _ _ _ _ _ _ _ _ _ _ _ _ _ _ _ k).trans e
       .exact(D5 P _ _ _ _ _ _ _ _ _ _ _ _ _ _ _ _ _ k).trans e
      .refine⟨by rcases hI with rfl|⟨a,mn,ot,rfl⟩<;>rfl,om (ax os n0) m (dk n0) (dv 2) false (vg (.int (i:Int)) (.int 2) (.int (n0:Int))),.inr ⟨m,_,_,_,by exact bN _ _,rfl⟩,fun k=>?_⟩
       have e:=KL X (c:=2) (ch:=false) (m:=m) ho hl (by exact af ‹_› (aa rfl)) (k:=k)
       rcases hI with rfl|⟨a,mn,ot,rfl⟩
       .exact(JP P _ _ _ _ _ _ _ _ _ _ _ _ _ _ _ k).trans e
       .exact(D5 P _ _ _ _ _ _ _ _ _ _ _ _ _ _ _ _ _ k).trans e
     .refine⟨rfl,om (ax os n0) m' (dk n0) (dv 2) (decide (c<2)) (vg (.int (i:Int)) (.int 2) (.int (n0:Int))),.inr ⟨m',_,_,_,M1,rfl⟩,fun k=>?_⟩
      have e:=KL X (c:=2) (ch:=decide (c<2)) (m:=m') ho hl (by lia) (k:=k)
      exact(D5 P _ _ _ _ _ _ _ _ _ _ _ _ _ _ _ _ _ k).trans e)
  (.inl ⟨rfl,gE⟩)
 rw[aT,ai]at h1
 rcases h1 with⟨hl,_⟩|⟨m',a,mn,ot,M1,rfl⟩
 .exact absurd (bM.mp hl) (A9 X h)
 .exact⟨m',a,mn,ot,M1,h2⟩
theorem L9(X:PG P os n0)(h:n0<os.length): ∃m,cB P 60 (bx [(S "local_calls",s1 f9 (wU P))] [((462,S "sub_of"),s2 ed (ri P)),((462,S "target"),s2 ed (qq P))]) 507 [] false [ax os n0]=some (.dict m (dk n0) (dv 2),none):=by
 have pos:=X.pos
 have lim:=X.lim
 have hz:aQ (nl (locs os)).length=true:=bo (by
  refine ae (ai ..) ?_
  have:=List.length_filter_le (vB os) (List.range os.length)
  rw[aG]at this
  unfold locs;lia)
 obtain⟨m1,a1,X8,X1,q1,e1⟩:=EA (P:=P) X h (m:=2) (c:=1) (.inl rfl) (by exact Nat.le_add_left _ _) (.inl rfl)
 obtain⟨m2,a2,ZZ,ZY,q2,e2⟩:=EA (P:=P) X h (m:=m1) (c:=2) (.inr rfl) (by exact af ‹_› (aa rfl)) (.inr ⟨a1,X8,X1,rfl⟩)
 refine⟨m2,?_⟩
 refine fh (st:=[(.v (S "program"),.aw (ax os n0))]) (by kernel_rfl) fun k=>?_
 refine(?_:bF (57+1+2) (rW P) (aL (KK P) 507) [(.v (S "program"),.aw (ax os n0))] k=_)
 refine(eX (m:=57) 2).trans ?_
 have hd:bF 60 (rW P) ((aL (KK P) 507).take 2) [(.v (S "program"),.aw (ax os n0))]=fun k=>k (om (ax os n0) 2 (dk n0) (dv 1) true []):=by
  funext k
  refine ae (zy h) ?_
  refine(UX P _ _ _ _ _ _ _ _ _ _ k).trans ?_
  exact ae (oR (by simp;exact Nat.ne_of_gt (Nat.zero_lt_of_lt ‹_›)) rfl) rfl
 refine(?_:bF 60 (rW P) ((aL (KK P) 507).take 2) [(.v (S "program"),.aw (ax os n0))] _=_)
 refine ae hd ?_
 refine(?_:bF (56+2) (rW P) ((aL (KK P) 507).drop 2) (om (ax os n0) 2 (dk n0) (dv 1) true []) k=_)
 refine(mR (t:=TB P) (b:=Se P) (r:=(aL (KK P) 507).drop 3) (by kernel_rfl)).trans ?_
 refine ae (show(rW P).wf=2997+1+1+1 from rfl) (dW.trans ?_)
 refine(QY P _ _ _ _ _ _ _ _ _ _ _ _ _ _ _).trans ?_
 refine(ao ..).trans ?_
 refine(Q1 P _ _ _ _ _ _ _ _ _ _ _ _ _ _ _).trans ?_
 refine(vP X _).trans ?_
 refine ae hz ((ao ..).trans ?_)
 refine(e1 _).trans ?_
 refine dW.trans ?_
 refine(JO P _ _ _ _ _ _ _ _ _ _ _ _ _ _ _ _ _ _).trans ?_
 refine ae (show decide ((1:Int)<2)=true from rfl) ((ao ..).trans ?_)
 refine(Q0 P _ _ _ _ _ _ _ _ _ _ _ _ _ _ _ _ _ _).trans ?_
 refine(vP X _).trans ?_
 refine ae hz ((ao ..).trans ?_)
 refine(e2 _).trans ?_
 refine dW.trans ?_
 refine(JO P _ _ _ _ _ _ _ _ _ _ _ _ _ _ _ _ _ _).trans ?_
 refine ae (show decide ((2:Int)<2)=false from rfl) ((bH ..).trans ?_)
 exact UY P _ _ _ _ _ _ _ _ _ _ _ _ _ _ _ _ _ _
noncomputable def Sd(P:Params):U1 MV:=K1 mX P (bx [(S "local_calls",s1 f9 (wU P))] [((462,S "sub_of"),s2 ed (ri P)),((462,S "target"),s2 ed (qq P))]) 507
theorem U5(hD:Good D):aV D 26 (S "frame_counts") (s1 mX (Sd D.w.params)):=
 f1 hD mX (by decide) (dV hD (ay (JR hD) (by decide) bz) (dM (DD hD) (by decide) (dM (BL hD) (by decide) cX))) (by kernel_rfl) (by kernel_rfl) (by kernel_rfl) (by kernel_rfl)
theorem QZ(X:PG P os n0)(h:n0<os.length): ∃m,∀k,Sd P (ax os n0) k=k (.dict m (dk n0) (dv 2)):=by
 obtain⟨m,e⟩:=L9 X h
 exact⟨m,fun k=>cZ (T:=mX) (x:= .dict m (dk n0) (dv 2)) (o:=cB P 60 (bx [(S "local_calls",s1 f9 (wU P))] [((462,S "sub_of"),s2 ed (ri P)),((462,S "target"),s2 ed (qq P))]) 507 [] false [ax os n0]) e k⟩
end
noncomputable def pP(P:Params)(hg ij ib:U1 Bool)(cn:U1 Int)(gs tg so:U2 Int):Cx:={ bx [(S "has_goal",s1 gb hg),(S "is_jump",s1 gb ij),(S "is_branch",s1 gb ib)] [((462,S "count"),s1 ed cn),((462,S "goal_slot"),s2 ed gs),((462,S "target"),s2 ed tg),((462,S "sub_of"),s2 ed so)]with sc:=dF (KK P) 514,own:=false }
noncomputable def DG(P:Params):List Stmt:=j1 (aL (KK P) 514) 0
noncomputable def BQ(P:Params):List Stmt:=j1 (aL (KK P) 514) 1
noncomputable abbrev hJ(N:Int):List MV:=(List.range (N-0).toNat).map fun i:Nat=>MV.int (0+(i:Int))
section
variable(P:Params)(hg ij ib:U1 Bool)(cn:U1 Int)(gs tg so:U2 Int)(os sl:List MV)(n:Nat)(ks:List Int)(ts:List MV)(many:Int)(bp:List MV)
noncomputable abbrev mA(T:MV)(tail:St):St:=(.v (S "program"),.aw T)::tail
noncomputable abbrev XJ(a:MV):St:=[(.v (S "at"),.aw a)]
noncomputable abbrev Bx(a o:MV):St:=[(.v (S "at"),.aw a),(.v (S "order"),.aw o)]
noncomputable abbrev wP(a o s:MV):St:=[(.v (S "at"),.aw a),(.v (S "order"),.aw o),(.v (S "slot"),.aw s)]
theorem Vt(k:St→aH):bF 60 (pP P hg ij ib cn gs tg so) (aL (KK P) 514) [(.v (S "program"),.aw (aK os sl n ks ts many bp))] k=
 cn (aK os sl n ks ts many bp) fun N=>bif eu N then bif aQ (hJ N).length then dN (bF 58 (pP P hg ij ib cn gs tg so) (DG P)) (S "at") (hJ N) (mA (aK os sl n ks ts many bp) []) (fun st=>bF 59 (pP P hg ij ib cn gs tg so) ((aL (KK P) 514).drop 1) st k)else none else none:=by kernel_rfl
noncomputable def Sm(hg:U1 Bool)(gs:U2 Int)(os:List MV)(T:MV)(n:Nat)(ks:List Int)(ts:List MV)(many i:Int)(k0:MV→aH)(k1:MV→MV→aH):aH:=
 ea (.list os) (.int i) fun t=>hg t fun b=>bif b then(gs T (.int i) fun s=>bif decide (0≤s)then(bif !(decide (s<many))then none else eN .NotIn (.int s) (.dict n ks ts) fun c=>bif c then none else k1 t (.int s))else none)else k0 t
theorem OO(i:Int)(k:St→aH):bF 58 (pP P hg ij ib cn gs tg so) (DG P) (mA (aK os sl n ks ts many bp) (XJ (.int i))) k=
 Sm hg gs os (aK os sl n ks ts many bp) n ks ts many i (fun t=>k (mA (aK os sl n ks ts many bp) (Bx (.int i) t))) (fun t s=>k (mA (aK os sl n ks ts many bp) (wP (.int i) t s))):=by kernel_rfl
theorem ON(i:Int)(o:MV)(k:St→aH):bF 58 (pP P hg ij ib cn gs tg so) (DG P) (mA (aK os sl n ks ts many bp) (Bx (.int i) o)) k=
 Sm hg gs os (aK os sl n ks ts many bp) n ks ts many i (fun t=>k (mA (aK os sl n ks ts many bp) (Bx (.int i) t))) (fun t s=>k (mA (aK os sl n ks ts many bp) (wP (.int i) t s))):=by kernel_rfl
theorem OM(i:Int)(o s:MV)(k:St→aH):bF 58 (pP P hg ij ib cn gs tg so) (DG P) (mA (aK os sl n ks ts many bp) (wP (.int i) o s)) k=
 Sm hg gs os (aK os sl n ks ts many bp) n ks ts many i (fun t=>k (mA (aK os sl n ks ts many bp) (wP (.int i) t s))) (fun t s=>k (mA (aK os sl n ks ts many bp) (wP (.int i) t s))):=by kernel_rfl
theorem Rh(a o:MV)(k:St→aH):bF 59 (pP P hg ij ib cn gs tg so) ((aL (KK P) 514).drop 1) (mA (aK os sl n ks ts many bp) (Bx a o)) k=
 cn (aK os sl n ks ts many bp) fun N=>bif eu N then bif aQ (hJ N).length then dN (bF 57 (pP P hg ij ib cn gs tg so) (BQ P)) (S "at") (hJ N) (mA (aK os sl n ks ts many bp) (Bx a o)) k else none else none:=by kernel_rfl
theorem Rg(a o s:MV)(k:St→aH):bF 59 (pP P hg ij ib cn gs tg so) ((aL (KK P) 514).drop 1) (mA (aK os sl n ks ts many bp) (wP a o s)) k=
 cn (aK os sl n ks ts many bp) fun N=>bif eu N then bif aQ (hJ N).length then dN (bF 57 (pP P hg ij ib cn gs tg so) (BQ P)) (S "at") (hJ N) (mA (aK os sl n ks ts many bp) (wP a o s)) k else none else none:=by kernel_rfl
noncomputable def TG(ij ib:U1 Bool)(tg so:U2 Int)(os:List MV)(T:MV)(i:Int)(k:MV→aH):aH:=
 ea (.list os) (.int i) fun t=>ij t fun b=>bif b then(tg T (.int i) fun g=>so T (.int g) fun s=>so T (.int i) fun s'=>bif s != s' then none else k t)else
  (ib t fun b=>bif b then(tg T (.int i) fun g=>so T (.int g) fun s=>so T (.int i) fun s'=>bif s != s' then none else k t)else k t)
theorem Re(i:Int)(o:MV)(k:St→aH):bF 57 (pP P hg ij ib cn gs tg so) (BQ P) (mA (aK os sl n ks ts many bp) (Bx (.int i) o)) k=TG ij ib tg so os (aK os sl n ks ts many bp) i (fun t=>k (mA (aK os sl n ks ts many bp) (Bx (.int i) t))):=by kernel_rfl
theorem Rd(i:Int)(o s:MV)(k:St→aH):bF 57 (pP P hg ij ib cn gs tg so) (BQ P) (mA (aK os sl n ks ts many bp) (wP (.int i) o s)) k=TG ij ib tg so os (aK os sl n ks ts many bp) i (fun t=>k (mA (aK os sl n ks ts many bp) (wP (.int i) t s))):=by kernel_rfl
end
noncomputable def OH(P:Params)(ie ij:U1 Bool)(se:U2 Int):Cx:={ bx [(S "is_exit",s1 gb ie),(S "is_jump",s1 gb ij)] [((462,S "sub_end"),s2 ed se)]with sc:=dF (KK P) 521,own:=false }
section
variable(P:Params)(ie ij:U1 Bool)(se:U2 Int)(os sl:List MV)(n:Nat)(ks:List Int)(ts:List MV)(many:Int)
noncomputable abbrev Sr(T s l:MV):St:=[(.v (S "program"),.aw T),(.v (S "sub"),.aw s),(.v (S "last"),.aw l)]
noncomputable def NO(ie ij:U1 Bool)(se:U2 Int)(os:List MV)(T:MV)(s:Int)(k:Int→aH):aH:=
 se T (.int s) fun e=>ea (.list os) (.int (e-1)) fun t=>ie t fun b=>bif !b then(ea (.list os) (.int (e-1)) fun t=>ij t fun c=>bif !c then none else k (e-1))else k (e-1)
theorem Vv(k:St→aH):bF 60 (OH P ie ij se) (aL (KK P) 521) [(.v (S "program"),.aw (aK os sl n ks ts many [.int 0]))] k=
 NO ie ij se os (aK os sl n ks ts many [.int 0]) 0 fun l=>k (Sr (aK os sl n ks ts many [.int 0]) (.int 0) (.int l)):=by kernel_rfl
theorem Vu(n0:Int)(k:St→aH):bF 60 (OH P ie ij se) (aL (KK P) 521) [(.v (S "program"),.aw (aK os sl n ks ts many [.int 0,.int n0]))] k=
 NO ie ij se os (aK os sl n ks ts many [.int 0,.int n0]) 0 fun Y=>NO ie ij se os (aK os sl n ks ts many [.int 0,.int n0]) n0 fun l=>k (Sr (aK os sl n ks ts many [.int 0,.int n0]) (.int n0) (.int l)):=by kernel_rfl
end
noncomputable def vE(P:Params)(re:U1 (List MV))(cn:U1 Int):Cx:={ bx [(S "reachable",s1 f9 re)] [((462,S "count"),s1 ed cn)]with sc:=dF (KK P) 528,own:=false }
noncomputable def Si(P:Params):List Stmt:=j1 (aL (KK P) 528) 1
section
variable(P:Params)(re:U1 (List MV))(cn:U1 Int)(os sl:List MV)(n:Nat)(ks:List Int)(ts:List MV)(many:Int)(bp:List MV)
noncomputable abbrev y8(T:MV)(l:List MV)(tail:St):St:=(.v (S "program"),.aw T)::(.v (S "reached"),.aw (.list l))::tail
theorem Vf(k:St→aH):bF 60 (vE P re cn) ((aL (KK P) 528).take 1) [(.v (S "program"),.aw (aK os sl n ks ts many bp))] k=
 re (aK os sl n ks ts many bp) fun l=>k (y8 (aK os sl n ks ts many bp) l []):=by kernel_rfl
theorem Ve(T:MV)(l:List MV)(k:MV→St→aH):peek (ev 56 (vE P re cn)) (vE P re cn) (lV ((aL (KK P) 528).drop 1)) (y8 T l []) k=k (.int (l.length:Nat)) (y8 T l []):=by kernel_rfl
theorem Vh(T:MV)(l:List MV)(i:Int)(k:St→aH):bF 57 (vE P re cn) (Si P) (y8 T l [(.v (S "at"),.aw (.int i))]) k=ea (.list l) (.int i) fun v=>eN .NotEq v (.int i) fun b=>bif b then none else k (y8 T l [(.v (S "at"),.aw (.int i))]):=by kernel_rfl
theorem Vg(l:List MV)(a:MV)(k:St→aH):bF 58 (vE P re cn) ((aL (KK P) 528).drop 2) (y8 (aK os sl n ks ts many bp) l [(.v (S "at"),.aw a)]) k=
 cn (aK os sl n ks ts many bp) fun N=>eN .Lt (.int (l.length:Nat)) (.int N) fun b=>bif b then none else k (y8 (aK os sl n ks ts many bp) l [(.v (S "at"),.aw a)]):=by kernel_rfl
end
noncomputable def tJ(P:Params)(lc:U1 (List MV))(cb fc:U1 MV)(so tg:U2 Int):Cx:={ bx [(S "local_calls",s1 f9 lc),(S "called_by",s1 mX cb),(S "frame_counts",s1 mX fc)] [((462,S "sub_of"),s2 ed so),((462,S "target"),s2 ed tg)]with sc:=dF (KK P) 535,own:=false }
noncomputable def Hj(P:Params):List Stmt:=j1 (aL (KK P) 535) 3
noncomputable def KX(P:Params):List Stmt:=j1 (aL (KK P) 535) 5
section
variable(P:Params)(lc:U1 (List MV))(cb fc:U1 MV)(so tg:U2 Int)(os sl:List MV)(n:Nat)(ks:List Int)(ts:List MV)(many:Int)(bp:List MV)
noncomputable abbrev tD(T:MV)(l:List MV)(tail:St):St:=(.v (S "program"),.aw T)::(.v (S "calls"),.aw (.list l))::tail
theorem OK(k:St→aH):bF 60 (tJ P lc cb fc so tg) ((aL (KK P) 535).take 2) [(.v (S "program"),.aw (aK os sl n ks ts many bp))] k=
 lc (aK os sl n ks ts many bp) fun l=>bif !(!l.isEmpty)then some (.none,none)else k (tD (aK os sl n ks ts many bp) l []):=by kernel_rfl
noncomputable abbrev IP(ld a s o:MV):St:=[(.v (S "leads"),.aw ld),(.v (S "at"),.aw a),(.v (S "sub"),.aw s),(.v (S "other"),.aw o)]
noncomputable abbrev GO(ld a s o c:MV):St:=[(.v (S "leads"),.aw ld),(.v (S "at"),.aw a),(.v (S "sub"),.aw s),(.v (S "other"),.aw o),(.v (S "counts"),.aw c)]
theorem Vs(l:List MV)(k:St→aH):bF 58 (tJ P lc cb fc so tg) ((aL (KK P) 535).drop 2) (tD (aK os sl n ks ts many bp) l []) k=
 cb (aK os sl n ks ts many bp) fun ld=>bif aQ l.length then dN (bF 55 (tJ P lc cb fc so tg) (Hj P)) (S "at") l (tD (aK os sl n ks ts many bp) l [(.v (S "leads"),.aw ld)]) (fun st=>bF 56 (tJ P lc cb fc so tg) ((aL (KK P) 535).drop 4) st k)else none:=by kernel_rfl
noncomputable def Sk(so tg:U2 Int)(T ld:MV)(i:Int)(k:Int→Int→aH):aH:=so T (.int i) fun s=>tg T (.int i) fun o=>bif o==s then none else ea ld (.int o) fun c=>eN .In (.int s) c fun b=>bif b then none else k s o
theorem Rb(l:List MV)(ld:MV)(i:Int)(k:St→aH):bF 55 (tJ P lc cb fc so tg) (Hj P) (tD (aK os sl n ks ts many bp) l [(.v (S "leads"),.aw ld),(.v (S "at"),.aw (.int i))]) k=Sk so tg (aK os sl n ks ts many bp) ld i fun s o=>k (tD (aK os sl n ks ts many bp) l (IP ld (.int i) (.int s) (.int o))):=by kernel_rfl
theorem Ra(l:List MV)(ld:MV)(i:Int)(s0 o0:MV)(k:St→aH):bF 55 (tJ P lc cb fc so tg) (Hj P) (tD (aK os sl n ks ts many bp) l (IP ld (.int i) s0 o0)) k=Sk so tg (aK os sl n ks ts many bp) ld i fun s o=>k (tD (aK os sl n ks ts many bp) l (IP ld (.int i) (.int s) (.int o))):=by kernel_rfl
theorem Vr(l:List MV)(ld a s o:MV)(k:St→aH):bF 56 (tJ P lc cb fc so tg) ((aL (KK P) 535).drop 4) (tD (aK os sl n ks ts many bp) l (IP ld a s o)) k=
 fc (aK os sl n ks ts many bp) fun c=>bif aQ l.length then dN (bF 53 (tJ P lc cb fc so tg) (KX P)) (S "at") l (tD (aK os sl n ks ts many bp) l (GO ld a s o c)) k else none:=by kernel_rfl
theorem Vq(l:List MV)(ld s o c:MV)(i:Int)(k:St→aH):bF 53 (tJ P lc cb fc so tg) (KX P) (tD (aK os sl n ks ts many bp) l (GO ld (.int i) s o c)) k=
 so (aK os sl n ks ts many bp) (.int i) fun s'=>ea c (.int s') fun v=>eN .GtE v (.int 8) fun b=>bif b then none else k (tD (aK os sl n ks ts many bp) l (GO ld (.int i) s o c)):=by kernel_rfl
end
noncomputable def KS(P:Params)(pr:U1 MV)(cn:U1 Int)(g e r c:U1 Unit):Cx:={ bx [(S "Program",s1 mX pr),(S "check_goals",s1 rf g),(S "check_ends",s1 rf e),(S "check_reached",s1 rf r),(S "check_calls",s1 rf c)] [((462,S "count"),s1 ed cn)]with sc:=dF (KK P) 543,own:=false }
section
variable(P:Params)(pr:U1 MV)(cn:U1 Int)(g e r c:U1 Unit)(os sl:List MV)(n:Nat)(ks:List Int)(ts:List MV)(many:Int)(bp:List MV)
theorem Vj(o:MV)(Dr:Int)(k:St→aH):bF 60 (KS P pr cn g e r c) ((aL (KK P) 543).take 1) [(.v (S "orders"),.aw o),(.v (S "most"),.aw (.int Dr))] k=
 pr o fun T=>k [(.v (S "orders"),.aw o),(.v (S "most"),.aw (.int Dr)),(.v (S "program"),.aw T)]:=by kernel_rfl
theorem Vi(o:MV)(Dr:Int)(k:St→aH):bF 59 (KS P pr cn g e r c) ((aL (KK P) 543).drop 1) [(.v (S "orders"),.aw o),(.v (S "most"),.aw (.int Dr)),(.v (S "program"),.aw (aK os sl n ks ts many bp))] k=
 cn (aK os sl n ks ts many bp) fun N=>bif N==0 then none else bif decide (many>Dr)then none else g (aK os sl n ks ts many bp) fun Y=>e (aK os sl n ks ts many bp) fun Y=>r (aK os sl n ks ts many bp) fun Y=>c (aK os sl n ks ts many bp) fun Y=>some (aK os sl n ks ts many bp,none):=by kernel_rfl
end
section
variable{P:Params}{os:List Od}{n0:Nat}
theorem mM:hJ (n:Int)=nl (List.range n):=je
noncomputable abbrev Eb(P:Params):Cx:=pP P (rP P) (nk P) (jS P) (mZ P) (tA P) (qq P) (ri P)
theorem BP(X:PG P os n0){o:Od}(ho:os[i]? =some o){k0:MV→aH}{k1:MV→MV→aH}:Sm (rP P) (tA P) (cW os) (ax os n0) os.length (pF os.length) (ii os.length) (os.length:Int) (i:Int) k0 k1=bif(o.br||o.lo)then k1 o.t (.int (o.goal:Int))else k0 o.t:=by
 have lim:=X.lim
 refine(dP (by rw[ai];exact af ‹_› (aa rfl)) (f6 ho)).trans (((X.ok i o ho).fl.goal ..).trans ?_)
 induction hg:(o.br||o.lo)using ag with
 |false=>rfl
 |true=>
  have lt:=ry X ho hg
  refine(ao ..).trans ((Et X ho hg ..).trans (ae (aW (show(0:Int)≤(o.goal:Int) by exact Int.natCast_nonneg _)) (ae (aW (show(o.goal:Int)<(os.length:Int) by exact c7.mpr ‹_›)) ?_)))
  refine(?_:(bif !decide ((o.goal:Int)∈pF os.length)then none else k1 o.t (.int (o.goal:Int)))=_)
  exact ae (aW (wb.mpr lt)) rfl
theorem E0(X:PG P os n0){o:Od}(ho:os[i]? =some o)(hb:o.br=true):dH os n0 o.goal=dH os n0 i:=by
 obtain⟨a,b⟩:=X.Xm i o ho hb
 unfold dH
 by_cases q:i<n0
 .have:=a q
  exact(az (fun z=>by lia)).trans (ae (az (fun z=>by lia)) rfl)
 .have:=b (by exact cG ‹_›)
  exact(aF ⟨by lia,this.1⟩).trans (ae (aF ⟨by lia,by exact cG ‹_›⟩) rfl)
theorem OL(X:PG P os n0){o:Od}(ho:os[i]? =some o){k:MV→aH}:TG (nk P) (jS P) (qq P) (ri P) (cW os) (ax os n0) (i:Int) k=k o.t:=by
 have lim:=X.lim
 have fl:=(X.ok i o ho).fl
 refine(dP (by rw[ai];exact af ‹_› (aa rfl)) (f6 ho)).trans ((fl.Ry ..).trans ((bH ..).trans ((fl.branch ..).trans ?_)))
 induction hb:o.br using ag with
 |false=>rfl
 |true=>
  refine(ao ..).trans (ae (qv X ho (by rw[hb];rfl) ..) ((rJ ..).trans ((rJ ..).trans (ae (E0 X ho hb) ?_))))
  rw[show((dH os n0 i:Int) != (dH os n0 i:Int))=false by simp];rfl
theorem r7{l:List Nat}{j:Nat}(h:(nl l)[j]? =some t): ∃i,l[j]? =some i∧t= .int (i:Int):=by
 rw[bA]at h
 induction q:l[j]? using ab with
 |none=>rw[q]at h;exact nn h
 |some i=>rw[q]at h;obtain rfl:=b8 h;exact⟨i,rfl,rfl⟩
theorem A0{n j i:Nat}(h:(List.range n)[j]? =some i):i=j∧j<n:=by
 obtain⟨h1,h2⟩:=a8.mp h
 rw[aG]at h1
 rw[List.getElem_range]at h2
 exact⟨h2.symm,h1⟩
theorem MB(X:PG P os n0):cB P 60 (bx [(S "has_goal",s1 gb (rP P)),(S "is_jump",s1 gb (nk P)),(S "is_branch",s1 gb (jS P))] [((462,S "count"),s1 ed (mZ P)),((462,S "goal_slot"),s2 ed (tA P)),((462,S "target"),s2 ed (qq P)),((462,S "sub_of"),s2 ed (ri P))]) 514 [] false [ax os n0]=some (.none,none):=by
 have lim:=X.lim
 have pos:=X.pos
 have le:=X.le
 have hz:aQ (nl (List.range os.length)).length=true:=bo (by exact ae (ai ..) (ae aG (af ‹_› (aa rfl))))
 obtain⟨s1,a1,b1⟩:=eF (B:=bF 58 (Eb P) (DG P)) (x:=S "at") (fun j st=>(j=0∧st=mA (ax os n0) [])∨(∃a o,st=mA (ax os n0) (Bx a o))∨ ∃a o s,st=mA (ax os n0) (wP a o s))
  (ts:=nl (List.range os.length)) (j:=0) (st:=mA (ax os n0) []) (fun j t st ht hI=>by
    obtain⟨i,h1,rfl⟩:=r7 ht
    clear ht;obtain⟨rfl,hj⟩:=A0 h1
    obtain⟨o,ho⟩:=gp hj
    rw[aT]at hI
    rcases hI with⟨_,rfl⟩|⟨a,o',rfl⟩|⟨a,o',s,rfl⟩
    .refine⟨rfl,?_⟩
     induction hg:(o.br||o.lo)using ag with
     |true=>exact⟨mA (ax os n0) (wP (.int (i:Int)) o.t (.int (o.goal:Int))),.inr (.inr ⟨_,_,_,rfl⟩),fun k=>(OO P _ _ _ _ _ _ _ _ _ _ _ _ _ _ _ k).trans ((BP X ho).trans (by exact ae hg rfl))⟩
     |false=>exact⟨mA (ax os n0) (Bx (.int (i:Int)) o.t),.inr (.inl ⟨_,_,rfl⟩),fun k=>(OO P _ _ _ _ _ _ _ _ _ _ _ _ _ _ _ k).trans ((BP X ho).trans (by exact ae hg rfl))⟩
    .refine⟨rfl,?_⟩
     induction hg:(o.br||o.lo)using ag with
     |true=>exact⟨mA (ax os n0) (wP (.int (i:Int)) o.t (.int (o.goal:Int))),.inr (.inr ⟨_,_,_,rfl⟩),fun k=>(ON P _ _ _ _ _ _ _ _ _ _ _ _ _ _ _ _ k).trans ((BP X ho).trans (by exact ae hg rfl))⟩
     |false=>exact⟨mA (ax os n0) (Bx (.int (i:Int)) o.t),.inr (.inl ⟨_,_,rfl⟩),fun k=>(ON P _ _ _ _ _ _ _ _ _ _ _ _ _ _ _ _ k).trans ((BP X ho).trans (by exact ae hg rfl))⟩
    .refine⟨rfl,?_⟩
     induction hg:(o.br||o.lo)using ag with
     |true=>exact⟨mA (ax os n0) (wP (.int (i:Int)) o.t (.int (o.goal:Int))),.inr (.inr ⟨_,_,_,rfl⟩),fun k=>(OM P _ _ _ _ _ _ _ _ _ _ _ _ _ _ _ _ _ k).trans ((BP X ho).trans (by exact ae hg rfl))⟩
     |false=>exact⟨mA (ax os n0) (wP (.int (i:Int)) o.t s),.inr (.inr ⟨_,_,_,rfl⟩),fun k=>(OM P _ _ _ _ _ _ _ _ _ _ _ _ _ _ _ _ _ k).trans ((BP X ho).trans (by exact ae hg rfl))⟩)
  (.inl ⟨rfl,rfl⟩)
 have MZ:(∃a o,s1=mA (ax os n0) (Bx a o))∨ ∃a o s,s1=mA (ax os n0) (wP a o s):=by
  rcases a1 with⟨h,_⟩|h
  .rw[ai,aG]at h;lia
  .exact h
 clear a1;obtain⟨s2,a2,b2⟩:=eF (B:=bF 57 (Eb P) (BQ P)) (x:=S "at") (fun j st=>(∃a o,st=mA (ax os n0) (Bx a o))∨ ∃a o s,st=mA (ax os n0) (wP a o s))
  (ts:=nl (List.range os.length)) (j:=0) (st:=s1) (fun j t st ht hI=>by
    obtain⟨i,h1,rfl⟩:=r7 ht
    clear ht;obtain⟨rfl,hj⟩:=A0 h1
    obtain⟨o,ho⟩:=gp hj
    rcases hI with⟨a,o',rfl⟩|⟨a,o',s,rfl⟩
    .exact⟨rfl,mA (ax os n0) (Bx (.int (i:Int)) o.t),.inl ⟨_,_,rfl⟩,fun k=>(Re P _ _ _ _ _ _ _ _ _ _ _ _ _ _ _ _ k).trans (OL X ho)⟩
    .exact⟨rfl,mA (ax os n0) (wP (.int (i:Int)) o.t s),.inr ⟨_,_,_,rfl⟩,fun k=>(Rd P _ _ _ _ _ _ _ _ _ _ _ _ _ _ _ _ _ k).trans (OL X ho)⟩) MZ
 have hl:ci s2=none:=by clear b2;rcases a2 with⟨a,o,rfl⟩|⟨a,o,s,rfl⟩<;>rfl
 refine ku (st:=[(.v (S "program"),.aw (ax os n0))]) (bB:=s2) (by kernel_rfl) (fun k=>?_) hl
 refine(Vt P (rP P) (nk P) (jS P) (mZ P) (tA P) (qq P) (ri P) _ _ _ _ _ _ _ k).trans ?_
 refine(lS _).trans ?_
 refine ae (et (by exact Int.natCast_nonneg _) (by lia)) ((ao ..).trans (ae mM (ae hz ((ao ..).trans ?_))))
 refine(b1 _).trans ?_
 have fin:(bif eu (os.length:Int)then bif aQ (hJ (os.length:Int)).length then dN (bF 57 (Eb P) (BQ P)) (S "at") (hJ (os.length:Int)) s1 k else none else none)=k s2:=by
  exact ae (et (by exact Int.natCast_nonneg _) (by lia)) ((ao ..).trans (ae mM (ae hz ((ao ..).trans ((b2 ..))))))
 clear b1 b2;rcases MZ with⟨a,o,rfl⟩|⟨a,o,s,rfl⟩
 .refine(Rh P _ _ _ _ _ _ _ _ _ _ _ _ _ _ _ _ k).trans ?_
  exact(lS _).trans fin
 .refine(Rg P _ _ _ _ _ _ _ _ _ _ _ _ _ _ _ _ _ k).trans ?_
  exact(lS _).trans fin
end
section
variable{P:Params}{os:List Od}{n0:Nat}
noncomputable abbrev OP(P:Params):Cx:=bx [(S "has_goal",s1 gb (rP P)),(S "is_jump",s1 gb (nk P)),(S "is_branch",s1 gb (jS P))] [((462,S "count"),s1 ed (mZ P)),((462,S "goal_slot"),s2 ed (tA P)),((462,S "target"),s2 ed (qq P)),((462,S "sub_of"),s2 ed (ri P))]
noncomputable abbrev K0(P:Params):Cx:=bx [(S "is_exit",s1 gb (xq P)),(S "is_jump",s1 gb (nk P))] [((462,S "sub_end"),s2 ed (Gz P))]
noncomputable abbrev KV(P:Params):Cx:=bx [(S "reachable",s1 f9 (IS P))] [((462,S "count"),s1 ed (mZ P))]
noncomputable abbrev KW(P:Params):Cx:=bx [(S "local_calls",s1 f9 (wU P)),(S "called_by",s1 mX (Sq P)),(S "frame_counts",s1 mX (Sd P))] [((462,S "sub_of"),s2 ed (ri P)),((462,S "target"),s2 ed (qq P))]
noncomputable def So(P:Params):U1 Unit:=K1 rf P (OP P) 514
noncomputable def Sp(P:Params):U1 Unit:=K1 rf P (K0 P) 521
noncomputable def Sf(P:Params):U1 Unit:=K1 rf P (KV P) 528
noncomputable def Sl(P:Params):U1 Unit:=K1 rf P (KW P) 535
theorem Va(hD:Good D):aV D 26 (S "check_goals") (s1 rf (So D.w.params)):=
 f1 hD rf (by decide) (dV hD (ay (L5 hD) (by decide) (ay (zG hD) (by decide) (ay (xZ hD) (by decide) bz))) (dM (zm hD) (by decide) (dM (KN hD) (by decide) (dM (BL hD) (by decide) (dM (DD hD) (by decide) cX))))) (by kernel_rfl) (by kernel_rfl) (by kernel_rfl) (by kernel_rfl)
theorem Vb(hD:Good D):aV D 26 (S "check_ends") (s1 rf (Sp D.w.params)):=
 f1 hD rf (by decide) (dV hD (ay (Ex hD) (by decide) (ay (zG hD) (by decide) bz)) (dM (Oy hD) (by decide) cX)) (by kernel_rfl) (by kernel_rfl) (by kernel_rfl) (by kernel_rfl)
theorem U6(hD:Good D):aV D 27 (S "check_reached") (s1 rf (Sf D.w.params)):=
 f1 hD rf (by decide) (dV hD (ay (UZ hD) (by decide) bz) (dM (zm hD) (by decide) cX)) (by kernel_rfl) (by kernel_rfl) (by kernel_rfl) (by kernel_rfl)
theorem U9(hD:Good D):aV D 27 (S "check_calls") (s1 rf (Sl D.w.params)):=
 f1 hD rf (by decide) (dV hD (ay (JR hD) (by decide) (ay (Vc hD) (by decide) (ay (U5 hD) (by decide) bz))) (dM (DD hD) (by decide) (dM (BL hD) (by decide) cX))) (by kernel_rfl) (by kernel_rfl) (by kernel_rfl) (by kernel_rfl)
theorem Rf(X:PG P os n0): ∀k,So P (ax os n0) k=k ():=fun k=>cZ (T:=rf) (x:=()) (o:=cB P 60 (OP P) 514 [] false [ax os n0]) (MB X) k
theorem KZ(X:PG P os n0){s e:Nat}(he:fX os n0 s=e)(h1:0<e)(h2:e=n0∨e=os.length){k:Int→aH}:NO (xq P) (nk P) (Gz P) (cW os) (ax os n0) (s:Int) k=k ((e:Int)-1):=by
 have lim:=X.lim
 have le:=X.le
 obtain⟨o,ho⟩:=gp (os:=os) (i:=e-1) (bT (Nat.sub_lt h1 Nat.one_pos) (h2.elim (fun q=>af (c6 q) le) c6))
 have ex:o.ex=true:=(X.Sy _ o ho).mpr (by rw[Nat.sub_add_cancel h1];exact h2)
 unfold NO
 rw[Jl,he,show((e:Nat):Int)-1=((e-1:Nat):Int) by exact Xw ‹_›,dP (by rw[ai];exact af ‹_› (aa rfl)) (f6 ho),(X.ok _ o ho).fl.exit,ex];rfl
theorem MC(X:PG P os n0):cB P 60 (K0 P) 521 [] false [ax os n0]=some (.none,none):=by
 have pos:=X.pos
 have le:=X.le
 by_cases h:n0<os.length
 .have e0:fX os n0 0=n0:=by unfold fX;exact aF ⟨h,by exact ca ‹_›⟩
  have e1:fX os n0 n0=os.length:=by unfold fX;exact ae (az (fun z=>Nat.lt_irrefl _ z.2)) rfl
  refine ku (st:=[(.v (S "program"),.aw (ax os n0))]) (bB:=Sr (ax os n0) (.int (n0:Int)) (.int ((os.length:Int)-1))) (by kernel_rfl) (fun k=>?_) rfl
  have x0:=fun k=>KZ X e0 (by exact ca ‹_›) (.inl rfl) (k:=k)
  have x1:=fun k=>KZ X e1 (by exact Nat.zero_lt_of_lt ‹_›) (.inr rfl) (k:=k)
  rw[zy h]at x0 x1 ⊢
  refine(Vu P _ _ _ _ _ _ _ _ _ _ k).trans ?_
  exact(x0 _).trans (x1 _)
 .have e0:fX os n0 0=os.length:=by unfold fX;rw[az (fun z=>h z.1)]
  refine ku (st:=[(.v (S "program"),.aw (ax os n0))]) (bB:=Sr (ax os n0) (.int 0) (.int ((os.length:Int)-1))) (by kernel_rfl) (fun k=>?_) rfl
  have x0:=fun k=>KZ X e0 (by lia) (.inr rfl) (k:=k)
  rw[LL h]at x0 ⊢
  exact(Vv P _ _ _ _ _ _ _ _ _ k).trans (x0 _)
theorem Ri(X:PG P os n0): ∀k,Sp P (ax os n0) k=k ():=fun k=>cZ (T:=rf) (x:=()) (o:=cB P 60 (K0 P) 521 [] false [ax os n0]) (MC X) k
theorem Mx(X:PG P os n0):cB P 60 (KV P) 528 [] false [ax os n0]=some (.none,none):=by
 have lim:=X.lim
 have pos:=X.pos
 have le:=X.le
 obtain⟨s1,a1,b1⟩:=eF (B:=bF 57 (vE P (IS P) (mZ P)) (Si P)) (x:=S "at") (fun j st=>(j=0∧st=y8 (ax os n0) (ii os.length) [])∨ ∃a,st=y8 (ax os n0) (ii os.length) [(.v (S "at"),.aw a)])
  (ts:=(List.range os.length).map fun i:Nat=>MV.int (i:Int)) (j:=0) (st:=y8 (ax os n0) (ii os.length) []) (fun j t st ht hI=>by
    obtain⟨rfl,hj⟩:=mL ht
    have step: ∀k,bF 57 (vE P (IS P) (mZ P)) (Si P) (y8 (ax os n0) (ii os.length) [(.v (S "at"),.aw (.int (j:Int)))]) k=k (y8 (ax os n0) (ii os.length) [(.v (S "at"),.aw (.int (j:Int)))]):=fun k=>by
     refine(Vh P _ _ _ _ _ k).trans ?_
     refine(dP (by rw[mF];exact af ‹_› (aa rfl)) (Bd hj)).trans ?_
     refine(?_:(bif((j:Int) != (j:Int))then none else _)=_)
     rw[show((j:Int) != (j:Int))=false by simp];rfl
    rw[aT]at hI
    clear hj ht;rcases hI with⟨rfl,rfl⟩|⟨a,rfl⟩
    .exact⟨rfl,_,.inr ⟨_,rfl⟩,step⟩
    .exact⟨rfl,_,.inr ⟨_,rfl⟩,step⟩)
  (.inl ⟨rfl,rfl⟩)
 rw[ai,aG,aT]at a1
 obtain⟨a,rfl⟩: ∃a,s1=y8 (ax os n0) (ii os.length) [(.v (S "at"),.aw a)]:=by
  rcases a1 with⟨h,_⟩|h
  .lia
  .exact h
 refine ku (st:=[(.v (S "program"),.aw (ax os n0))]) (bB:=y8 (ax os n0) (ii os.length) [(.v (S "at"),.aw a)]) (by kernel_rfl) (fun k=>?_) rfl
 refine(?_:bF (58+1+1) (vE P (IS P) (mZ P)) (aL (KK P) 528) [(.v (S "program"),.aw (ax os n0))] k=_)
 refine(eX (m:=58) 1).trans ?_
 refine(Vf P _ _ _ _ _ _ _ _ _ _).trans ?_
 refine(LA X _).trans ?_
 refine(?_:bF (56+3) (vE P (IS P) (mZ P)) ((aL (KK P) 528).drop 1) (y8 (ax os n0) (ii os.length) []) k=_)
 refine(kX (n:=56) (N:=os.length) (x:=S "at") (e:=lV ((aL (KK P) 528).drop 1)) (b:=Si P) (r:=(aL (KK P) 528).drop 2) (by kernel_rfl) (by kernel_rfl) (by kernel_rfl) (by kernel_rfl) (by kernel_rfl) (fun K=>(Ve P (IS P) (mZ P) _ _ K).trans (by rw[mF])) (by exact af ‹_› (aa rfl))).trans ?_
 refine(b1 _).trans ?_
 refine(Vg P _ _ _ _ _ _ _ _ _ _ _ k).trans ?_
 refine(lS _).trans ?_
 refine(?_:(bif decide (((ii os.length).length:Int)<(os.length:Int))then none else _)=_)
 exact ae mF (ae (cz (Int.lt_irrefl _)) rfl)
theorem Q7(X:PG P os n0): ∀k,Sf P (ax os n0) k=k ():=fun k=>cZ (T:=rf) (x:=()) (o:=cB P 60 (KV P) 528 [] false [ax os n0]) (Mx X) k
noncomputable abbrev AS(P:Params):Cx:=tJ P (wU P) (Sq P) (Sd P) (ri P) (qq P)
noncomputable abbrev Dh(n0:Nat):MV:= .dict 2 [0,(n0:Int)] [.set [(n0:Int)],.set []]
theorem OJ(X:PG P os n0){o:Od}(ho:os[i]? =some o)(hl:o.lo=true){k:Int→Int→aH}:Sk (ri P) (qq P) (ax os n0) (Dh n0) (i:Int) k=k 0 (n0:Int):=by
 obtain⟨l1,l2,l3⟩:=X.log i o ho hl
 have pos:=X.pos
 have hs:dH os n0 i=0:=by unfold dH;exact(az (fun z=>by lia))
 unfold Sk
 rw[rJ,hs,qv X ho (by rw[hl,Bool.or_true]),l2,show((n0:Int)==((0:Nat):Int))=false by simp;exact Nat.ne_of_gt (Nat.zero_lt_of_lt ‹_›),bH]
 refine(?_:((if(n0:Int)=0 then some (MV.set [(n0:Int)])else if(n0:Int)=(n0:Int)then some (MV.set [])else none).bind fun t=>eN .In (.int ((0:Nat):Int)) t fun b=>bif b then none else k ((0:Nat):Int) (n0:Int))=_)
 exact ae (az (by lia)) (ae (aF rfl) rfl)
theorem MA(X:PG P os n0):cB P 60 (KW P) 535 [] false [ax os n0]=some (.none,none):=by
 have lim:=X.lim
 by_cases h:n0<os.length
 .have hz:aQ (nl (locs os)).length=true:=bo (by
   refine ae (ai ..) ?_
   have:=List.length_filter_le (vB os) (List.range os.length)
   rw[aG]at this
   unfold locs;lia)
  obtain⟨mf,Y0⟩:=QZ X h
  have lw:=A9 X h
  obtain⟨s1,a1,b1⟩:=eF (B:=bF 55 (AS P) (Hj P)) (x:=S "at") (fun j st=>(j=0∧st=tD (ax os n0) (nl (locs os)) [(.v (S "leads"),.aw (Dh n0))])∨ ∃a s o,st=tD (ax os n0) (nl (locs os)) (IP (Dh n0) a s o))
   (ts:=nl (locs os)) (j:=0) (st:=tD (ax os n0) (nl (locs os)) [(.v (S "leads"),.aw (Dh n0))]) (fun j t st ht hI=>by
     obtain⟨i,h1,rfl⟩:=r7 ht
     obtain⟨o,ho,hl⟩:=l5.mp (cv h1)
     rw[aT]at hI
     rcases hI with⟨_,rfl⟩|⟨a,s,o',rfl⟩
     .exact⟨rfl,tD (ax os n0) (nl (locs os)) (IP (Dh n0) (.int (i:Int)) (.int 0) (.int (n0:Int))),.inr ⟨_,_,_,rfl⟩,fun k=>(Rb P _ _ _ _ _ _ _ _ _ _ _ _ _ _ _ k).trans (OJ X ho hl)⟩
     .exact⟨rfl,tD (ax os n0) (nl (locs os)) (IP (Dh n0) (.int (i:Int)) (.int 0) (.int (n0:Int))),.inr ⟨_,_,_,rfl⟩,fun k=>(Ra P _ _ _ _ _ _ _ _ _ _ _ _ _ _ _ _ _ k).trans (OJ X ho hl)⟩)
   (.inl ⟨rfl,rfl⟩)
  rw[aT,ai]at a1
  obtain⟨a,s,o,rfl⟩: ∃a s o,s1=tD (ax os n0) (nl (locs os)) (IP (Dh n0) a s o):=by
   rcases a1 with⟨q,_⟩|q
   .exact absurd (bM.mp q) lw
   .exact q
  obtain⟨s2,a2,b2⟩:=eF (B:=bF 53 (AS P) (KX P)) (x:=S "at") (fun j st=> ∃a s o,st=tD (ax os n0) (nl (locs os)) (GO (Dh n0) a s o (.dict mf (dk n0) (dv 2))))
   (ts:=nl (locs os)) (j:=0) (st:=tD (ax os n0) (nl (locs os)) (GO (Dh n0) a s o (.dict mf (dk n0) (dv 2)))) (fun j t st ht hI=>by
     obtain⟨i,h1,rfl⟩:=r7 ht
     obtain⟨o',ho,hl⟩:=l5.mp (cv h1)
     obtain⟨a,s,o,rfl⟩:=hI
     refine⟨rfl,tD (ax os n0) (nl (locs os)) (GO (Dh n0) (.int (i:Int)) s o (.dict mf (dk n0) (dv 2))),⟨_,_,_,rfl⟩,fun k=>?_⟩
     refine(Vq P _ _ _ _ _ _ _ _ _ _ _ _ _ _ _ _ _ _ k).trans ?_
     refine(rJ _).trans ?_
     have hs:dH os n0 i=0:=by
      have:=(X.log i o' ho hl).1
      unfold dH;exact(az (fun z=>by lia))
     exact ae hs (En.trans rfl))
   ⟨a,s,o,rfl⟩
  obtain⟨a',s',o',rfl⟩:=a2
  refine ku (st:=[(.v (S "program"),.aw (ax os n0))]) (bB:=tD (ax os n0) (nl (locs os)) (GO (Dh n0) a' s' o' (.dict mf (dk n0) (dv 2)))) (by kernel_rfl) (fun k=>?_) rfl
  refine(?_:bF (57+1+2) (AS P) (aL (KK P) 535) [(.v (S "program"),.aw (ax os n0))] k=_)
  refine(eX (m:=57) 2).trans ?_
  refine(OK P _ _ _ _ _ _ _ _ _ _ _ _ _).trans ?_
  refine(vP X _).trans ?_
  have:(!(!(nl (locs os)).isEmpty))=false:=by
   induction q:locs os using aO with
   |nil=>exact absurd q lw
   |cons=>rfl
  refine ae this ((bH ..).trans ?_)
  refine(Vs P _ _ _ _ _ _ _ _ _ _ _ _ _ k).trans ?_
  refine(Rj X h _).trans ?_
  refine ae hz ((ao ..).trans ?_)
  refine(b1 _).trans ?_
  refine(Vr P _ _ _ _ _ _ _ _ _ _ _ _ _ _ _ _ _ k).trans ?_
  refine(Y0 _).trans ?_
  refine ae hz ((ao ..).trans ?_)
  exact b2 k
 .refine fh (st:=[(.v (S "program"),.aw (ax os n0))]) (by kernel_rfl) fun k=>?_
  refine(?_:bF (57+1+2) (AS P) (aL (KK P) 535) [(.v (S "program"),.aw (ax os n0))] k=_)
  refine(eX (m:=57) 2).trans ?_
  refine(OK P _ _ _ _ _ _ _ _ _ _ _ _ _).trans ?_
  refine(vP X _).trans ?_
  exact ae (FJ X h) rfl
theorem Rc(X:PG P os n0): ∀k,Sl P (ax os n0) k=k ():=fun k=>cZ (T:=rf) (x:=()) (o:=cB P 60 (KW P) 535 [] false [ax os n0]) (MA X) k
noncomputable abbrev zp(P:Params):Cx:=bx [(S "Program",s1 mX (uk P)),(S "check_goals",s1 rf (So P)),(S "check_ends",s1 rf (Sp P)),(S "check_reached",s1 rf (Sf P)),(S "check_calls",s1 rf (Sl P))] [((462,S "count"),s1 ed (mZ P))]
theorem My(X:PG P os n0):cB P 60 (zp P) 543 [] false [.list (cW os),.int 4096]=some (ax os n0,none):=by
 have lim:=X.lim
 have pos:=X.pos
 have le:=X.le
 refine fh (st:=[(.v (S "orders"),.aw (.list (cW os))),(.v (S "most"),.aw (.int 4096))]) (by kernel_rfl) fun k=>?_
 refine(?_:bF (58+1+1) (KS P (uk P) (mZ P) (So P) (Sp P) (Sf P) (Sl P)) (aL (KK P) 543) _ k=_)
 refine(eX (m:=58) 1).trans ?_
 refine(Vj P _ _ _ _ _ _ _ _ _).trans ?_
 refine(Fh X _).trans ?_
 refine(Vi P _ _ _ _ _ _ _ _ _ _ _ _ _ _ _ k).trans ?_
 refine(lS _).trans ?_
 rw[show((os.length:Int)==0)=false by simp;intro h;rw[h]at le;simp at le;lia,bH,cz (by lia),bH]
 refine(Rf X _).trans ?_
 refine(Ri X _).trans ?_
 refine(Q7 X _).trans ?_
 exact(Rc X _)
end
noncomputable def Nf(P:Params):U1 MV:=fun a k=>I8 mX (cB P 60 (zp P) 543 [] false [a,.int 4096]) k
theorem JW{P:Params}{os:List Od}{n0:Nat}(X:PG P os n0): ∀k,Nf P (.list (cW os)) k=k (ax os n0):=fun k=>
 cZ (T:=mX) (x:=ax os n0) (o:=cB P 60 (zp P) 543 [] false [.list (cW os),.int 4096]) (My X) k
theorem Vk{P:Params}{K:MV→Option MV→aH}{o:MV×Option MV}(h:(s1 mX (Nf P)).run ts K=some o):(bZ P 60 (zp P) 543 [] false [.int 4096]).run ts K=some o:=by
 obtain⟨a,l,rfl,h⟩:=bL h
 obtain⟨rfl,h⟩:=cm h
 obtain⟨r,x,e1,rfl,e3⟩:=l6 (T:=mX) (o:=cB P 60 (zp P) 543 [] false [a,.int 4096]) h
 exact(gL (dflt:=[.int 4096]) (ts:=[a]) (Sw:=[a,.int 4096]) rfl (show fY P 543 [] [.int 4096] [a]=true by kernel_rfl) e1 rfl).trans e3
theorem U7(hD:Good D):aV D 28 (S "check_program") (s1 mX (Nf D.w.params)):=by
 have tc:eE D 27 (zp D.w.params):=dV hD (ay (Ma hD) (by decide) (ay (Va hD) (by decide) (ay (Vb hD) (by decide) (ay (U6 hD) (by decide) (ay (U9 hD) (by decide) bz))))) (dM (zm hD) (by decide) cX)
 have h:cS D 28 (.ref 543) (bZ D.w.params 60 (zp D.w.params) 543 [] false [.int 4096]):=gK hD (by decide) tc (by kernel_rfl) (by kernel_rfl) rfl
 exact fk hD h (by kernel_rfl) rfl rfl fun Y Y Y h=>Vk h
noncomputable def g4(P:Params)(su:U2 (List MV))(cn:U1 Int):Cx:={ bx [(S "successors",s2 f9 su)] [((462,S "count"),s1 ed cn)]with sc:=dF (KK P) 576,own:=false }
noncomputable def MT(P:Params):Expr:=RD ((aL (KK P) 576).drop 1)
noncomputable def J7(P:Params):List Stmt:=RE ((aL (KK P) 576).drop 1)
noncomputable def wJ(P:Params):List Stmt:=j1 (J7 P) 1
noncomputable def IQ(P:Params):List Stmt:=j1 (wJ P) 1
section
variable(P:Params)(su:U2 (List MV))(cn:U1 Int)(T:MV)(g:Int→Int→Option Int)
noncomputable abbrev iu(T:MV)(ms:List MV)(g:Int→Int→Option Int)(ch:Bool)(tail:St):St:=(.v (S "program"),.aw T)::(.v (S "masks"),.own (.list ms))::(.v (S "behind"),.aw (.int 0))::(.v (S "ahead"),.aw (.fn g))::(.v (S "is_changed"),.aw (.bool ch))::tail
noncomputable abbrev SM(a:MV):St:=[(.v (S "at"),.aw a)]
noncomputable abbrev vf(a f:MV):St:=[(.v (S "at"),.aw a),(.v (S "found"),.aw f)]
noncomputable abbrev rh(a f o:MV):St:=[(.v (S "at"),.aw a),(.v (S "found"),.aw f),(.v (S "other"),.aw o)]
theorem TO(ms:List MV)(k:St→aH):bF 60 (g4 P su cn) ((aL (KK P) 576).take 1) [(.v (S "program"),.aw T),(.v (S "masks"),.own (.list ms)),(.v (S "behind"),.aw (.int 0)),(.v (S "ahead"),.aw (.fn g))] k=k (iu T ms g true []):=by kernel_rfl
theorem O6(ms:List MV)(ch:Bool)(k:Bool→St→aH):fH (ev 57 (g4 P su cn)) (g4 P su cn) 57 (MT P) (iu T ms g ch []) k=k ch (iu T ms g ch []):=by kernel_rfl
theorem O5(ms:List MV)(ch:Bool)(a f:MV)(k:Bool→St→aH):fH (ev 57 (g4 P su cn)) (g4 P su cn) 57 (MT P) (iu T ms g ch (vf a f)) k=k ch (iu T ms g ch (vf a f)):=by kernel_rfl
theorem O4(ms:List MV)(ch:Bool)(a f o:MV)(k:Bool→St→aH):fH (ev 57 (g4 P su cn)) (g4 P su cn) 57 (MT P) (iu T ms g ch (rh a f o)) k=k ch (iu T ms g ch (rh a f o)):=by kernel_rfl
noncomputable abbrev rS(N:Int):List MV:=(List.range (N-1- -1).toNat).map fun i:Nat=>MV.int (N-1-(i:Int))
variable(os sl:List MV)(n:Nat)(ks:List Int)(ts:List MV)(many:Int)(bp:List MV)
theorem O3(ms:List MV)(ch:Bool)(k:St→aH):bF 57 (g4 P su cn) (J7 P) (iu (aK os sl n ks ts many bp) ms g ch []) k=
 cn (aK os sl n ks ts many bp) fun N=>bif eu (N-1)&&eu (-1)&&decide ((-1:Int)= -1)then bif aQ (rS N).length then dN (bF 54 (g4 P su cn) (wJ P)) (S "at") (rS N) (iu (aK os sl n ks ts many bp) ms g false []) k else none else none:=by kernel_rfl
theorem O2(ms:List MV)(ch:Bool)(a f:MV)(k:St→aH):bF 57 (g4 P su cn) (J7 P) (iu (aK os sl n ks ts many bp) ms g ch (vf a f)) k=
 cn (aK os sl n ks ts many bp) fun N=>bif eu (N-1)&&eu (-1)&&decide ((-1:Int)= -1)then bif aQ (rS N).length then dN (bF 54 (g4 P su cn) (wJ P)) (S "at") (rS N) (iu (aK os sl n ks ts many bp) ms g false (vf a f)) k else none else none:=by kernel_rfl
theorem O1(ms:List MV)(ch:Bool)(a f o:MV)(k:St→aH):bF 57 (g4 P su cn) (J7 P) (iu (aK os sl n ks ts many bp) ms g ch (rh a f o)) k=
 cn (aK os sl n ks ts many bp) fun N=>bif eu (N-1)&&eu (-1)&&decide ((-1:Int)= -1)then bif aQ (rS N).length then dN (bF 54 (g4 P su cn) (wJ P)) (S "at") (rS N) (iu (aK os sl n ks ts many bp) ms g false (rh a f o)) k else none else none:=by kernel_rfl
theorem Pd(ms:List MV)(ch:Bool)(a:Int)(k:St→aH):bF 54 (g4 P su cn) (wJ P) (iu T ms g ch (SM (.int a))) k=
 su T (.int a) fun l=>bif aQ l.length then dN (bF 51 (g4 P su cn) (IQ P)) (S "other") l (iu T ms g ch (vf (.int a) (.int 0))) (fun st=>bF 52 (g4 P su cn) ((wJ P).drop 2) st k)else none:=by kernel_rfl
theorem Pc(ms:List MV)(ch:Bool)(a:Int)(f:MV)(k:St→aH):bF 54 (g4 P su cn) (wJ P) (iu T ms g ch (vf (.int a) f)) k=
 su T (.int a) fun l=>bif aQ l.length then dN (bF 51 (g4 P su cn) (IQ P)) (S "other") l (iu T ms g ch (vf (.int a) (.int 0))) (fun st=>bF 52 (g4 P su cn) ((wJ P).drop 2) st k)else none:=by kernel_rfl
theorem Pb(ms:List MV)(ch:Bool)(a:Int)(f o:MV)(k:St→aH):bF 54 (g4 P su cn) (wJ P) (iu T ms g ch (rh (.int a) f o)) k=
 su T (.int a) fun l=>bif aQ l.length then dN (bF 51 (g4 P su cn) (IQ P)) (S "other") l (iu T ms g ch (rh (.int a) (.int 0) o)) (fun st=>bF 52 (g4 P su cn) ((wJ P).drop 2) st k)else none:=by kernel_rfl
theorem TN(ms:List MV)(ch:Bool)(a:MV)(f x:Int)(k:St→aH):bF 51 (g4 P su cn) (IQ P) (iu T ms g ch (rh a (.int f) (.int x))) k=
 ea (.list ms) (.int x) fun m=>m5 .BitOr (.int f) m fun Y r=>k (iu T ms g ch (rh a r (.int x))):=by kernel_rfl
noncomputable def RH(ms:List MV)(g:Int→Int→Option Int)(a f:Int)(k0:Int→aH)(k1:Int→List MV→aH):aH:=match g a f with
 |some r=>ea (.list ms) (.int a) fun v=>eN .NotEq (.int r) v fun b=>bif b then(bif pC a ms.length then k1 r (ms.set a.toNat (.int r))else none)else k0 r
 |none=>none
theorem Jg(ms:List MV)(ch:Bool)(a f:Int)(k:St→aH):bF 52 (g4 P su cn) ((wJ P).drop 2) (iu T ms g ch (vf (.int a) (.int f))) k=
 RH ms g a f (fun r=>k (iu T ms g ch (vf (.int a) (.int r)))) (fun r ms=>k (iu T ms g true (vf (.int a) (.int r)))):=by kernel_rfl
theorem Jf(ms:List MV)(ch:Bool)(a f:Int)(o:MV)(k:St→aH):bF 52 (g4 P su cn) ((wJ P).drop 2) (iu T ms g ch (rh (.int a) (.int f) o)) k=
 RH ms g a f (fun r=>k (iu T ms g ch (rh (.int a) (.int r) o))) (fun r ms=>k (iu T ms g true (rh (.int a) (.int r) o))):=by kernel_rfl
theorem O9(ms:List MV)(ch:Bool)(a f:MV)(k:St→aH):bF 58 (g4 P su cn) ((aL (KK P) 576).drop 2) (iu T ms g ch (vf a f)) k=some (.list ms,none):=by kernel_rfl
theorem O8(ms:List MV)(ch:Bool)(a f o:MV)(k:St→aH):bF 58 (g4 P su cn) ((aL (KK P) 576).drop 2) (iu T ms g ch (rh a f o)) k=some (.list ms,none):=by kernel_rfl
end
section
variable{P:Params}{os:List Od}{n0:Nat}{g:Int→Int→Option Int}{ah:Nat→Nat→Nat}
noncomputable abbrev g6(P:Params):Cx:=g4 P (GP P) (mZ P)
noncomputable abbrev dx(os:List Od)(ah:Nat→Nat→Nat)(i:Nat)(f:List Nat):Nat:=ah i (AG f (jn os i))
noncomputable def Ko(T:MV)(f:List Nat)(g:Int→Int→Option Int)(ch:Bool)(st:St):Prop:=(∃a x,st=iu T (nl f) g ch (vf a x))∨ ∃a x o,st=iu T (nl f) g ch (rh a x o)
theorem A6{f:List Nat}{x:Nat}(h:x<f.length):(nl f)[x]? =some (.int ((f.getD x 0:Nat):Int)):=by
 refine(bA).trans (ae (aq h) (ae (aM) (ae (aq h) ?_)));rfl
theorem xy{o:Od}(h:os[i]? =some o):jn os i=eq i o:=by unfold jn;exact ae h rfl
theorem O7{f:List Nat}{ch:Bool}{a:Int}{T:MV}(hf:f.length≤16): ∀{l:List Nat}(_: ∀x∈l,x<f.length){x0:Nat}{st:St},((st=iu T (nl f) g ch (vf (.int a) (.int (x0:Int))))∨ ∃o,st=iu T (nl f) g ch (rh (.int a) (.int (x0:Int)) o))→
 ∃bB,((bB=iu T (nl f) g ch (vf (.int a) (.int ((l.foldl (fun a j=>a ||| f.getD j 0) x0:Nat):Int))))∨ ∃o,bB=iu T (nl f) g ch (rh (.int a) (.int ((l.foldl (fun a j=>a ||| f.getD j 0) x0:Nat):Int)) o))∧ ∀K,dN (bF 51 (g6 P) (IQ P)) (S "other") (nl l) st K=K bB:=by
 intro l_
 induction l_ with
 |nil=>intro _ x0 st h;exact⟨st,h,fun Y=>rfl⟩
 |cons x l ih=>
  intro hl x0 st h
  have hx:=hl x (.head _)
  obtain⟨bB,h1,h2⟩:=ih (x0:=x0 ||| f.getD x 0) (st:=iu T (nl f) g ch (rh (.int a) (.int ((x0 ||| f.getD x 0:Nat):Int)) (.int (x:Int)))) (fun y hy=>hl y (.tail _ hy)) (.inr ⟨_,rfl⟩)
  refine⟨bB,h1,fun K=>?_⟩
  refine ft (h2 K) ?_
  have step: ∀k,bF 51 (g6 P) (IQ P) (iu T (nl f) g ch (rh (.int a) (.int (x0:Int)) (.int (x:Int)))) k=k (iu T (nl f) g ch (rh (.int a) (.int ((x0 ||| f.getD x 0:Nat):Int)) (.int (x:Int)))):=fun k=>by
   refine(TN P _ _ _ _ _ _ _ _ _ k).trans ?_
   refine(dP (by rw[ai];exact af ‹_› (aa rfl)) (A6 hx)).trans ?_
   refine(?_:k (iu T (nl f) g ch (rh (.int a) (.int (Builtin.bitOr (x0:Int) ((f.getD x 0:Nat):Int))) (.int (x:Int))))=_)
   rw[qe]
  rcases h with rfl|⟨o,rfl⟩
  .exact step _
  .exact step _
theorem Pa(X:PG P os n0)(hg: ∀i m:Nat,i<os.length→g (i:Int) (m:Int)=some (ah i m:Nat)){f:List Nat}(hf:f.length=os.length){ch:Bool}(hi:i<os.length)
 (gE:st=iu (ax os n0) (nl f) g ch (SM (.int (i:Int)))∨(∃x,st=iu (ax os n0) (nl f) g ch (vf (.int (i:Int)) x))∨ ∃x o,st=iu (ax os n0) (nl f) g ch (rh (.int (i:Int)) x o)):
 ∃bB,Ko (ax os n0) (f.set i (dx os ah i f)) g (ch|| !(dx os ah i f==f.getD i 0)) bB∧ ∀k,bF 54 (g6 P) (wJ P) st k=k bB:=by
 obtain⟨o,ho⟩:=gp hi
 have lim:=X.lim
 have hl: ∀x∈jn os i,x<f.length:=by exact ae (xy ho) (ae hf (AY X ho))
 have hz:aQ (nl (eq i o)).length=true:=bo (by
  rw[ai]
  have:(eq i o).length≤2:=by
   unfold eq
   split
   .simp
   .split<;>simp
  exact af ‹_› (aa rfl))
 have fin: ∀{qk:St},((qk=iu (ax os n0) (nl f) g ch (vf (.int (i:Int)) (.int 0)))∨ ∃o,qk=iu (ax os n0) (nl f) g ch (rh (.int (i:Int)) (.int 0) o))→
  ∃bB,Ko (ax os n0) (f.set i (dx os ah i f)) g (ch|| !(dx os ah i f==f.getD i 0)) bB∧ ∀k,(GP P (ax os n0) (.int (i:Int)) fun l=>bif aQ l.length then dN (bF 51 (g6 P) (IQ P)) (S "other") l qk (fun st=>bF 52 (g6 P) ((wJ P).drop 2) st k)else none)=k bB:=by
  intro qk h1
  obtain⟨vd,q1,q2⟩:=O7 (P:=P) (g:=g) (f:=f) (ch:=ch) (a:=(i:Int)) (T:=ax os n0) (by lia) (l:=jn os i) hl (x0:=0) h1
  have e0: ∀k,(GP P (ax os n0) (.int (i:Int)) fun l=>bif aQ l.length then dN (bF 51 (g6 P) (IQ P)) (S "other") l qk (fun st=>bF 52 (g6 P) ((wJ P).drop 2) st k)else none)=bF 52 (g6 P) ((wJ P).drop 2) vd k:=fun k=>by
   exact(xa X ho ..).trans (ae hz ((ao ..).trans (ft (xy ho) ((q2 ..)))))
  have e1: ∀(k0:Int→aH)(k1:Int→List MV→aH),RH (nl f) g (i:Int) ((AG f (jn os i):Nat):Int) k0 k1=bif !(dx os ah i f==f.getD i 0)then k1 (dx os ah i f:Nat) (nl (f.set i (dx os ah i f)))else k0 (dx os ah i f:Nat):=fun k0 k1=>by
   unfold RH
   refine ae (hg i _ hi) ?_
   refine(?_:(ea (.list (nl f)) (.int (i:Int)) fun v=>eN .NotEq (.int (dx os ah i f:Nat)) v fun b=>bif b then(bif pC (i:Int) (nl f).length then k1 (dx os ah i f:Nat) ((nl f).set ((i:Nat):Int).toNat (.int (dx os ah i f:Nat)))else none)else k0 (dx os ah i f:Nat))=_)
   rw[dP (by rw[ai];lia) (A6 (by lia)),ai,show pC (i:Int) f.length=true by unfold pC;simp only[aU,a9];rw[‹f.length=os.length›];exact Nm (af ‹os.length≤16› (by decide)) ‹i<os.length›,bJ,←List.map_set]
   refine(?_:(bif((dx os ah i f:Nat):Int) != ((f.getD i 0:Nat):Int)then _ else _)=_)
   have:(((dx os ah i f:Nat):Int) != ((f.getD i 0:Nat):Int))= !(dx os ah i f==f.getD i 0):=by
    induction q:dx os ah i f==f.getD i 0 using ag with
    |true=>refine ae (eq_of_beq q) ?_;simp
    |false=>
     have:dx os ah i f≠f.getD i 0:=by simpa using q
     refine(?_:(!(((dx os ah i f:Nat):Int)==((f.getD i 0:Nat):Int)))=true)
     exact ae (beq_eq_false_iff_ne.mpr (fun e=>this (by exact Int.natCast_inj.mp ‹_›))) rfl
   exact ae this rfl
  have same:(dx os ah i f==f.getD i 0)=true→f.set i (dx os ah i f)=f:=fun q=>by
   refine ae (eq_of_beq q) (ae (aM) (ae (aq (by lia)) ?_))
   exact List.set_getElem_self (by lia)
  clear q2;rcases q1 with rfl|⟨o2,rfl⟩
  .induction q:dx os ah i f==f.getD i 0 using ag with
   |true=>
    refine⟨iu (ax os n0) (nl f) g ch (vf (.int (i:Int)) (.int (dx os ah i f:Nat))),.inl ⟨_,_,by exact ae (same q) (ae Bool.not_true (ae (Bool.or_false ..) rfl))⟩,fun k=>?_⟩
    refine(e0 ..).trans ?_
    refine(Jg P _ _ _ _ _ _ _ _ k).trans ?_
    refine(e1 _ _).trans ?_
    exact ae q rfl
   |false=>
    refine⟨iu (ax os n0) (nl (f.set i (dx os ah i f))) g true (vf (.int (i:Int)) (.int (dx os ah i f:Nat))),.inl ⟨_,_,by exact ae Bool.not_false (ae (Bool.or_true ..) rfl)⟩,fun k=>?_⟩
    refine(e0 ..).trans ?_
    refine(Jg P _ _ _ _ _ _ _ _ k).trans ?_
    refine(e1 _ _).trans ?_
    exact ae q rfl
  .induction q:dx os ah i f==f.getD i 0 using ag with
   |true=>
    refine⟨iu (ax os n0) (nl f) g ch (rh (.int (i:Int)) (.int (dx os ah i f:Nat)) o2),.inr ⟨_,_,_,by exact ae (same q) (ae Bool.not_true (ae (Bool.or_false ..) rfl))⟩,fun k=>?_⟩
    refine(e0 ..).trans ?_
    refine(Jf P _ _ _ _ _ _ _ _ _ k).trans ?_
    refine(e1 _ _).trans ?_
    exact ae q rfl
   |false=>
    refine⟨iu (ax os n0) (nl (f.set i (dx os ah i f))) g true (rh (.int (i:Int)) (.int (dx os ah i f:Nat)) o2),.inr ⟨_,_,_,by exact ae Bool.not_false (ae (Bool.or_true ..) rfl)⟩,fun k=>?_⟩
    refine(e0 ..).trans ?_
    refine(Jf P _ _ _ _ _ _ _ _ _ k).trans ?_
    refine(e1 _ _).trans ?_
    exact ae q rfl
 rcases gE with rfl|⟨x,rfl⟩|⟨x,o',rfl⟩
 .obtain⟨bB,h1,h2⟩:=fin (.inl rfl)
  exact⟨bB,h1,fun k=>(Pd P _ _ _ _ _ _ _ k).trans (h2 k)⟩
 .obtain⟨bB,h1,h2⟩:=fin (.inl rfl)
  exact⟨bB,h1,fun k=>(Pc P _ _ _ _ _ _ _ _ k).trans (h2 k)⟩
 .obtain⟨bB,h1,h2⟩:=fin (.inr ⟨o',rfl⟩)
  exact⟨bB,h1,fun k=>(Pb P _ _ _ _ _ _ _ _ _ k).trans (h2 k)⟩
end
section
variable{P:Params}{os:List Od}{n0:Nat}{g:Int→Int→Option Int}{ah:Nat→Nat→Nat}
noncomputable def NV(T:MV)(f:List Nat)(g:Int→Int→Option Int)(ch:Bool)(st:St):Prop:=st=iu T (nl f) g ch []∨Ko T f g ch st
theorem sw{f:List Nat}{i j m:Nat}:(f.set i m).getD j 0=if j=i∧i<f.length then m else f.getD j 0:=by
 refine(aM).trans (ae (aM) (ae (List.getElem?_set) ?_))
 by_cases h:i=j
 .subst h
  by_cases q:i<f.length
  .simp[q]
  .simp[q]
 .have h': ¬j=i:=fun e=>h e.symm
  simp[h,h']
theorem xA(X:PG P os n0)(hg: ∀i m:Nat,i<os.length→g (i:Int) (m:Int)=some (ah i m:Nat)){f:List Nat}(hf:f.length=os.length){Zq:Bool}(gE:NV (ax os n0) f g Zq st):
 ∃ch bB,Ko (ax os n0) (jm (dx os ah) os.length f) g ch bB∧(ch=true↔jm (dx os ah) os.length f≠f)∧ ∀k,bF 57 (g6 P) (J7 P) st k=k bB:=by
 have lim:=X.lim
 have pos:=X.pos
 have le:=X.le
 have hd:(cY os.length).length=os.length:=by unfold cY;exact List.length_reverse.trans (aG)
 have go: ∀{qk:St},NV (ax os n0) f g false qk→ ∃ch bB,Ko (ax os n0) (jm (dx os ah) os.length f) g ch bB∧(ch=true↔jm (dx os ah) os.length f≠f)∧ ∀K,dN (bF 54 (g6 P) (wJ P)) (S "at") (nl (cY os.length)) qk K=K bB:=by
  intro qk h1
  obtain⟨bB,a1,a2⟩:=eF (B:=bF 54 (g6 P) (wJ P)) (x:=S "at") (fun j st=> ∃ch fj,fj=cN (dx os ah) ((cY os.length).take j) f∧((j=0∧NV (ax os n0) fj g ch st)∨Ko (ax os n0) fj g ch st)∧
   (ch=false→fj=f)∧(ch=true→ ∃i,os.length-j≤i∧i<os.length∧fj.getD i 0≠f.getD i 0)∧ ∀i,i<os.length-j→fj.getD i 0=f.getD i 0)
   (ts:=nl (cY os.length)) (j:=0) (st:=qk) (fun j t st ht hI=>by
     rw[aT]at hI ⊢
     obtain⟨i,hi,rfl⟩:=r7 ht
     have hj:j<os.length:=by have:=(a8.mp hi).1;lia
     clear ht;obtain⟨d1,d2⟩:=uG hj
     rw[d2]at hi
     obtain rfl:os.length-1-j=i:=by obtain rfl:=b8 hi;rfl
     obtain⟨ch,fj,M4,hT,c1,c2,c3⟩:=hI
     have NG:fj.length=os.length:=by exact ae M4 (kT.trans (hf))
     have gG:os.length-1-j<os.length:=by exact Wc ‹_›
     have X3:cN (dx os ah) ((cY os.length).take (j+1)) f=fj.set (os.length-1-j) (dx os ah (os.length-1-j) fj):=by exact ae d1 ((nT ..).trans (ft M4 rfl))
     have BJ:dK (st.get (.v (S "at")))=true∧(st.put (.v (S "at")) (.aw (.int ((os.length-1-j:Nat):Int)))=iu (ax os n0) (nl fj) g ch (SM (.int ((os.length-1-j:Nat):Int)))∨(∃x,st.put (.v (S "at")) (.aw (.int ((os.length-1-j:Nat):Int)))=iu (ax os n0) (nl fj) g ch (vf (.int ((os.length-1-j:Nat):Int)) x))∨ ∃x o,st.put (.v (S "at")) (.aw (.int ((os.length-1-j:Nat):Int)))=iu (ax os n0) (nl fj) g ch (rh (.int ((os.length-1-j:Nat):Int)) x o)):=by
      rcases hT with⟨_,rfl|⟨a,x,rfl⟩|⟨a,x,o,rfl⟩⟩|⟨a,x,rfl⟩|⟨a,x,o,rfl⟩
      .exact⟨rfl,.inl rfl⟩
      .exact⟨rfl,.inr (.inl ⟨x,rfl⟩)⟩
      .exact⟨rfl,.inr (.inr ⟨x,o,rfl⟩)⟩
      .exact⟨rfl,.inr (.inl ⟨x,rfl⟩)⟩
      .exact⟨rfl,.inr (.inr ⟨x,o,rfl⟩)⟩
     clear hT;obtain⟨vd,e1,e2⟩:=Pa (P:=P) X hg NG gG BJ.2
     refine⟨BJ.1,vd,⟨_,_,X3.symm,.inr e1,fun h=>?_,fun h=>?_,fun i hi=>?_⟩,e2⟩
     .clear c2 BJ e1;induction ch using ag with
      |true=>rw[Bool.true_or]at h;exact Gy h
      |false=>
       rw[Bool.false_or,Bool.not_eq_false']at h
       refine ae (eq_of_beq h) (ae (aM) (ae (aq (by lia)) ?_))
       refine ft (c1 rfl) ?_
       exact List.set_getElem_self (by lia)
     .induction ch using ag with
      |true=>
       obtain⟨i,h1,h2,h3⟩:=c2 rfl
       refine⟨i,by exact Xz ‹_›,h2,?_⟩
       exact ae sw (ae (az (fun z=>Xn z ‹_› ‹_›)) h3)
      |false=>
       rw[Bool.false_or,Bool.not_eq_true']at h
       refine⟨os.length-1-j,by lia,gG,?_⟩
       refine ae sw (ae (aF ⟨rfl,by lia⟩) (ft (c1 rfl) ?_))
       simpa using h
     .refine sw.trans ((az (fun z=>by lia)).trans ?_)
      exact c3 i (by exact XA ‹_›))
   ⟨false,f,rfl,.inl ⟨rfl,h1⟩,fun Y=>rfl,(fun h=>nomatch h),fun Y Y=>rfl⟩
  obtain⟨ch,fj,M4,hT,c1,c2,c3⟩:=a1
  have hl:(nl (cY os.length)).length=os.length:=by exact(ai ..).trans (hd)
  rw[aT,hl,List.take_of_length_le (by exact c6 ‹_›)]at M4
  have hs:fj=jm (dx os ah) os.length f:=M4
  clear M4 c3;subst hs
  refine⟨ch,bB,?_,⟨fun h e=>?_,fun h=>?_⟩,a2⟩
  .rcases hT with⟨h,_⟩|h
   .rw[aT,hl]at h;lia
   .exact h
  .obtain⟨i,_,_,h3⟩:=c2 h
   rw[e]at h3;exact h3 rfl
  .clear hT c2;induction ch using ag with
   |true=>rfl
   |false=>exact absurd (c1 rfl) h
 have r1:(eu ((os.length:Int)-1)&&eu (-1)&&decide ((-1:Int)= -1))=true:=by
  exact ae (et (by lia) (by lia)) rfl
 have dn:rS (os.length:Int)=nl (cY os.length):=oW
 have z:aQ (nl (cY os.length)).length=true:=bo (by exact ae (ai ..) (ae hd (af ‹_› (aa rfl))))
 rcases gE with rfl|⟨a,x,rfl⟩|⟨a,x,o,rfl⟩
 .obtain⟨ch,bB,q1,q2,q3⟩:=go (.inl rfl)
  refine⟨ch,bB,q1,q2,fun k=>?_⟩
  refine(O3 P _ _ _ _ _ _ _ _ _ _ _ _ k).trans ?_
  refine(lS _).trans ?_
  exact ae r1 ((ao ..).trans (ae dn (ae z ((ao ..).trans ((q3 ..))))))
 .obtain⟨ch,bB,q1,q2,q3⟩:=go (.inr (.inl ⟨a,x,rfl⟩))
  refine⟨ch,bB,q1,q2,fun k=>?_⟩
  refine(O2 P _ _ _ _ _ _ _ _ _ _ _ _ _ _ k).trans ?_
  refine(lS _).trans ?_
  exact ae r1 ((ao ..).trans (ae dn (ae z ((ao ..).trans ((q3 ..))))))
 .obtain⟨ch,bB,q1,q2,q3⟩:=go (.inr (.inr ⟨a,x,o,rfl⟩))
  refine⟨ch,bB,q1,q2,fun k=>?_⟩
  refine(O1 P _ _ _ _ _ _ _ _ _ _ _ _ _ _ _ k).trans ?_
  refine(lS _).trans ?_
  rw[r1,ao,dn,z,ao,q3]
theorem rZ{T:MV}{f:List Nat}{ch:Bool}(h:NV T f g ch st)(k:Bool→St→aH):fH (ev 57 (g6 P)) (g6 P) 57 (MT P) st k=k ch st:=by
 rcases h with rfl|⟨a,x,rfl⟩|⟨a,x,o,rfl⟩
 .exact O6 P _ _ _ _ _ _ k
 .exact O5 P _ _ _ _ _ _ _ _ k
 .exact O4 P _ _ _ _ _ _ _ _ _ k
theorem E1(X:PG P os n0)(hg: ∀i m:Nat,i<os.length→g (i:Int) (m:Int)=some (ah i m:Nat)): ∀(d t g9:Nat){st:St},iter (dx os ah) os.length (t+d)=iter (dx os ah) os.length (t+d+1)→d+2≤g9→NV (ax os n0) (iter (dx os ah) os.length t) g true st→
 ∃bB,Ko (ax os n0) (iter (dx os ah) os.length (t+d)) g false bB∧ ∀K,j4 (fH (ev 57 (g6 P)) (g6 P) 57 (MT P)) (bF 57 (g6 P) (J7 P)) g9 st K=K bB:=by
 intro d
 induction d with
 |zero=>
  intro t g9 st hc hf gE
  obtain⟨n,rfl⟩: ∃n,g9=n+1+1:=⟨g9-2,by exact Wb ‹_›⟩
  obtain⟨ch,bB,h1,h2,h3⟩:=xA (P:=P) X hg (dC t) gE
  have e:jm (dx os ah) os.length (iter (dx os ah) os.length t)=iter (dx os ah) os.length t:=hc.symm
  have Y5:ch=false:=by
   clear h1;induction ch using ag with
   |false=>rfl
   |true=>exact absurd e (h2.mp rfl)
  clear h2;subst Y5
  rw[e]at h1
  refine⟨bB,h1,fun K=>?_⟩
  rw[dW,rZ gE,ao,h3,dW,rZ (.inr h1),bH]
 |succ d ih=>
  intro t g9 st hc hf gE
  obtain⟨n,rfl⟩: ∃n,g9=n+1+1:=⟨g9-2,by exact Wb (af (Nat.le_add_left _ _) ‹_›)⟩
  obtain⟨ch,bB,h1,h2,h3⟩:=xA (P:=P) X hg (dC t) gE
  have hs:jm (dx os ah) os.length (iter (dx os ah) os.length t)=iter (dx os ah) os.length (t+1):=rfl
  rw[hs]at h1 h2
  induction ch using ag with
  |true=>
   obtain⟨vd,q1,q2⟩:=ih (t+1) (n+1) (st:=bB) (by rw[show t+1+d=t+(d+1) by lia];exact hc) (by exact bf ‹_›) (.inr h1)
   refine⟨vd,by rw[show t+(d+1)=t+1+d by lia];exact q1,fun K=>?_⟩
   exact dW.trans ((rZ gE ..).trans ((ao ..).trans ((h3 ..).trans ((q2 ..)))))
  |false=>
   have e:iter (dx os ah) os.length (t+1)=iter (dx os ah) os.length t:=by
    by_cases q:iter (dx os ah) os.length (t+1)=iter (dx os ah) os.length t
    .exact q
    .exact nomatch h2.mpr q
   refine⟨bB,by refine ae (p8 e.symm ..) ?_;rw[e]at h1;exact h1,fun K=>?_⟩
   exact dW.trans ((rZ gE ..).trans ((ao ..).trans ((h3 ..).trans (dW.trans (ae (rZ (.inr h1) ..) ((bH ..)))))))
noncomputable abbrev za(P:Params):Cx:=bx [(S "successors",s2 f9 (GP P))] [((462,S "count"),s1 ed (mZ P))]
theorem Le(X:PG P os n0)(hg: ∀i m:Nat,i<os.length→g (i:Int) (m:Int)=some (ah i m:Nat))(hc:iter (dx os ah) os.length os.length=iter (dx os ah) os.length (os.length+1)):
 cB P 60 (za P) 576 [.aw,.own,.aw,.aw] false [ax os n0,.list (nl (List.replicate os.length 0)),.int 0,.fn g]=some (.list (nl (iter (dx os ah) os.length os.length)),none):=by
 have lim:=X.lim
 refine fh (st:=[(.v (S "program"),.aw (ax os n0)),(.v (S "masks"),.own (.list (nl (List.replicate os.length 0)))),(.v (S "behind"),.aw (.int 0)),(.v (S "ahead"),.aw (.fn g))]) (by kernel_rfl) fun k=>?_
 refine(?_:bF (58+1+1) (g6 P) (aL (KK P) 576) _ k=_)
 refine(eX (m:=58) 1).trans ?_
 refine(TO P _ _ _ _ _ _).trans ?_
 refine(?_:bF (57+2) (g6 P) ((aL (KK P) 576).drop 1) _ k=_)
 refine(mR (t:=MT P) (b:=J7 P) (r:=(aL (KK P) 576).drop 2) (by kernel_rfl)).trans ?_
 obtain⟨bB,h1,h2⟩:=E1 (P:=P) X hg os.length 0 3000 (st:=iu (ax os n0) (nl (List.replicate os.length 0)) g true []) (by exact ae (aT ..) hc) (by lia) (.inl rfl)
 refine(h2 _).trans ?_
 rw[aT]at h1
 clear h2;rcases h1 with⟨a,x,rfl⟩|⟨a,x,o,rfl⟩
 .exact O9 P _ _ _ _ _ _ _ _ k
 .exact O8 P _ _ _ _ _ _ _ _ _ k
end
noncomputable def I5:Nat→RT
 |0,_,_,_,_=>none
 |n+1,cx,e,st,k=>
  let R:=I5 n cx
  match e with
  | .Constant (.int i) _ _=>k false (.int i) st
  | .Name x _=>vS cx x st k
  | .BinOp l op r _=>R l st fun Y a st=>R r st fun Y b st=>m5 op a b fun o t=>k o t st
  | .UnaryOp .Not _ _=>none
  | .UnaryOp op x _=>R x st fun Y t st=>MS op t fun t=>k false t st
  | .IfExp t b o _=>fH R cx n t st fun c st=>bif c then R b st k else R o st k
  | .Subscript v s _=>D6 R cx v s st k
  |_=>none
theorem CM: ∀m:Nat,d4 D n (I5 m):=by
 intro m
 induction m with
 |zero=>intro cx e st k out h;exact nn h
 |succ m ih=>
  intro cx e st k out h
  induction e using Expr.casesOn with
  |Constant c ck p=>
   refine⟨fun Y Y z=>(nomatch z),?_⟩
   intro A env F W me rv s E ha hc S
   cases c with
   |int i=>exact wpAny_Constant_int (bP.dD (k:=k) h (dU.same fun Y Y e=>e) S (iL (D:=D) (F:=F)))
   |_=>exact nn h
  |Name x p=>exact⟨fun Y Y z=>(nomatch z),fun ha hc S=>Bf hc S h⟩
  |BinOp l op r p=>exact⟨fun Y Y z=>(nomatch z),fun ha hc S=>yb ih ha hc S h⟩
  |UnaryOp op x p=>
   refine⟨fun Y Y z=>(nomatch z),fun ha hc S=>?_⟩
   induction op using UnaryOp.casesOn with
   |Not=>exact nn h
   |_=>exact sR ih ha hc S h
  |IfExp t b o p=>exact⟨fun Y Y z=>(nomatch z),fun ha hc S=>ya ih ha hc S h⟩
  |Subscript v sl p=>exact⟨fun Y Y z=>(nomatch z),fun ha hc S=>EC ih ha hc S h⟩
  |_=>exact nn h
section
variable{sc:Scope}{cl:List (Str×Addr)}{b7:St}{gY:RV}
theorem u3(tc:eE D n cx)(ok:iZ cx.sc){f:Addr}{fd:FuncData}{ps:List Str}{body:List Stmt}{aR:St}{kI:RV}{R:Result→Shared→Prop}
 (ho:s.heap.get? f=some o) (hd:o.data= .func fd) (sh:BU fd ps body cx.sc) (NJ:s.heap.CodeRec fd.code fd.qualname) (pG:rY s.heap fd.defaults []) (Ax:cx.sd=true→kdsCode D.K fd.code=true)
 (C:rG D F cx.sc fd.closure b7 gY) (hA:ey A (n+1)) (hb:dG D.h₀.get? F) (qs:dG F s.heap.get?) (hl:vs.length=ps.length)
 (gE: ∀{env:Env}{W:Addr→Prop}{h:Heap}{Q:PUnit→Shared→Prop}{E:Value→Shared→Prop}{A:Around},Pl env→SR D F W env none b7 gY h→(∀b o,s.heap.get? b=some o→h.get? b=some o)→(∀a,W a→s.heap.get? a=none)→
   (∀p∈ps,env.kindOf p=some .local∨(env.kindOf p=some .cell∧ ∃c,env.cells.lookup p=some c∧W c))→
   (∀h' tk,SR D F W env none aR kI h'→(∀b o,¬W b→h.get? b=some o→h'.get? b=some o)→(∀b,h.get? b≠none→h'.get? b≠none)→Q ⟨⟩ { s with heap:=h',toks:=tk })→
   wpAny (model D.prog D.w) A (forIn (ps.zip (vs++[])) ⟨⟩ fun(p:Str×Value)(_:PUnit)=>storeName env p.1 p.2 >>= fun Y=>pure (ForInStep.yield PUnit.unit)) Q E { s with heap:=h })
 (hX: ∀{A':Around}{env:Env}{W:Addr→Prop}{h':Heap}{tk:Tok}{E:Value→Shared→Prop},ey A' n→cy D n cx env→SR D F W env none aR kI h'→(∀b o,s.heap.get? b=some o→h'.get? b=some o)→(∀a,W a→s.heap.get? a=none)→
   (∀x c,cx.sc.names.lookup x=some .cell→env.cells.lookup x=some c→W c)→env.code=fd.code→env.globals=mainGlobals→env.cells=fP cx.sc fd.closure s.heap.objs.size→W=Na cx.sc s.heap.objs.size→env.scope=cx.sc→
   wpAny (model D.prog D.w) A' (execs body env) (fun fl s'=>match fl with| .next=>R (.ok (.ret .none)) s'| .ret v=>R (.ok (.ret v)) s'|_=>False) E { s with heap:=h',toks:=tk }):
 codeAny (model D.prog D.w) A (.call (.ref f) ⟨vs,[]⟩) R s:=by
 have y5:fd.scope=cx.sc:=sh.sc
 refine codeAny_call_function (by have:=hA.dp;exact aX (bN _ _) (Nat.lt_trans this (by decide))) ho hd (by exact ae y5 ok.co) (by exact ae y5 ok.gen) sh.body NJ ?_
 refine sZ sh.po rfl sh.va sh.ko sh.kw sh.ar sh.nd pG (by exact c6 ‹_›) (by simp;exact c6 (Eq.symm ‹_›)) (by trivial) ?_
 refine ae y5 (ae sh.gl (ae sh.bu ?_))
 refine v6 ?_
 generalize R5:(Value.type (if(none:Option Env).isSome=true then "dict" else "frame"))=kH
 generalize kK:newEnv cx.sc s.heap.objs.size mainGlobals (cellsFrom (s.heap.objs.size+1) cx.sc.names fd.closure) (fd.qualname++".<locals>.") (some f) fd.code none builtinsNs=env
 have e1:env.locals=s.heap.objs.size:=by exact ft kK rfl
 have e2:env.cells=fP cx.sc fd.closure s.heap.objs.size:=by exact ft kK rfl
 have e3:env.scope=cx.sc:=by exact ft kK rfl
 have e4:env.code=fd.code:=by exact ft kK rfl
 have e5:env.globals=mainGlobals:=by exact ft kK rfl
 have e6:env.builtins=builtinsNs:=by exact ft kK rfl
 obtain⟨S,keep,wn⟩:=SR.start (me:=none) ok qs hb C (kH:=kH) e1 e2 e3 fun i C d e=>nomatch e
 have hc:=cy.start ok tc qs C e1 e2 e3 (by exact ae e4 Ax) e5 e6
 refine gE hc.pl S keep wn (fun p hp=>?_) fun h' tk S' k1 al=>?_
 .rcases sh.loc p hp with q|q
  .exact .inl (hc.nl p q)
  .obtain⟨c,e⟩:=hc.cs p _ q (.inl rfl)
   exact .inr ⟨hc.nc p q,c,e,jV ok q (by exact ft e2 e)⟩
 .have kS: ∀b o,s.heap.get? b=some o→h'.get? b=some o:=fun b o e=>k1 b o (fun w=>by exact fU (wn b w) e) (keep b o e)
  refine⟨D.nolimit.keeps fun b o e=>S'.fz b o (S'.base b o e),codeAny_func ?_⟩
  refine wm (hX hA.deeper hc S' kS wn (fun x c h1 h2=>jV ok h1 (by exact ft e2 h2)) e4 e5 e2 rfl e3) (fun fl s' hp=>?_)
  induction fl using Flow.casesOn with
  |next=>exact hp
  |ret v=>exact hp
  |_=>exact hp.elim
end
section
variable{cl:List (Str×Addr)}{b7:St}{gY:RV}
theorem zC{i:Int}{t:Tok}:D.VR F (.int i) (.int i t):=iL
theorem CT(tc:eE D 19 cx)(ok:iZ cx.sc)(Yv:cx.sd=false)(jM:cx.own=false){q:Addr}{fd:FuncData}{p1 p2:Str}{g:Int→Int→Option Int}
 (ho:F q=some o) (hd:o.data= .func fd) (sh:BU fd [p1,p2] [.Return (some e) pos] cx.sc) (NJ: ∀h:Heap,dG F h.get?→h.CodeRec fd.code fd.qualname) (pG:fd.defaults= .none)
 (C:rG D F cx.sc fd.closure b7 gY) (hb:dG D.h₀.get? F)
 (hg: ∀x y r,g x y=some r→I5 m cx e (d6 fg [p1,p2] [] [.int x,.int y] b7) (fun Y t st=>some (t,ci st))=some (.int r,none)):mJ D.prog D.w F (.ref q) g:=by
 intro A s x y r tx ty Q E hA hF YW hq
 have gD: ∀F':FH,D.dm F' [.int x,.int y] [.int x tx,.int y ty]:=fun F'=>dm.cons zC (dm.cons zC dm.nil)
 refine wpAny_call (u3 (n:=19) (vs:=[.int x tx,.int y ty]) (aR:=d6 fg [p1,p2] [] [.int x,.int y] b7) (kI:=jp [p1,p2] [.int x tx,.int y ty] gY) tc ok (hF q o ho) hd sh (NJ _ hF) (.inl ⟨pG,rfl⟩) (fun h=>by rw[Yv]at h;exact ew h) C hA hb hF rfl ?_ ?_)
 .intro env W h Q E A hp S keep wn qA go
  refine ic (s:={ s with heap:=h }) hp qA S (kn (gD F)) (by exact ae (im ..) List.nodup_nil) (by exact ae (im ..) (fun Y h=>nomatch h)) fun h' tk S' k1 al=>?_
  exact go h' tk (S'.Bu (kU (lr.refl _))) k1 al
 .intro A' env W h' tk E' M9 hc S keep wn cw ec eg W1 eW es
  have fr:cT cx env none (fun Y=>none) F s (fun Y=>False) (fun Y=>False) none F W (d6 fg [p1,p2] [] [.int x,.int y] b7) (jp [p1,p2] [.int x tx,.int y ty] gY) { s with heap:=h',toks:=tk }:=by
   have aw: ∀k sl,(d6 fg [p1,p2] [] [.int x,.int y] b7).get k=some sl→ ∃t,sl= .aw t:=by
    intro k sl hk
    have:d6 fg [p1,p2] [] [.int x,.int y] b7=(b7.put (.v p1) (.aw (.int x))).put (.v p2) (.aw (.int y)):=rfl
    rw[this,St.eP]at hk
    split at hk
    .obtain rfl:=b8 hk;exact⟨_,rfl⟩
    .rw[St.eP]at hk
     split at hk
     .obtain rfl:=b8 hk;exact⟨_,rfl⟩
     .obtain⟨t,v,e,Y⟩:=C.st k sl hk
      exact⟨t,e⟩
   refine⟨⟨h',tk,rfl⟩,dG.refl F,fun b o e=> .inl e,fun b o e Y=>keep b o e,fun b e=>?_,fun k t b h1 h2=>?_,fun k t h1=>?_,fun b h=>h.elim,fun b h=>(nomatch h),wn,cw,fun b o e=>(nomatch e),fun i C d e=>(nomatch e)⟩
   .induction z:s.heap.get? b using ab with
    |none=>exact absurd z e
    |some o=>exact ae (show({ s with heap:=h',toks:=tk }:Shared).heap.get? b=some o from keep b o z) (fun z=>nomatch z)
   .obtain⟨t',q⟩:=aw k _ h1;cases q
   .obtain⟨t',q⟩:=aw k _ h1;cases q
  refine wpAny_execs_cons (wm (uI (CM m) M9 hc S fr (k:=fun Y=>none) (out:=(.int r,none)) ?_) ?_)
  .show I5 m cx e _ (fun o t st=>bif !cx.own||o then some (t,ci st)else none)=_
   refine ae jM ?_
   exact hg x y r YW
  .intro fl s' hp
   induction fl using Flow.casesOn with
   |next=>obtain⟨Y,Y,Y,z,Y⟩:=hp;exact nn z
   |ret v=>
    obtain⟨F',bB,fx,t,he,S',WY,j0,Y⟩:=hp
    clear S';obtain rfl:t= .int r:=(cV he).1.symm
    rw[jM]at j0
    have j0:D.VR F' (.int r) v:=j0
    clear j0;obtain⟨n9,rfl⟩:=gj (D:=D) (F:=F') j0
    obtain⟨h2,t2,rfl⟩:=WY.sh
    exact hq h2 t2 n9 fun b o e=>WY.keep b o e (fun h=>h)
   |_=>exact hp.elim
end
open Classical in
noncomputable def FH.nest(F:FH)(h:Heap)(cl:List (Str×Addr))(c':Addr)(oc:Obj)(q:Addr)(fo:Obj):FH:=fun b=>if b=q then some fo else if b=c' then some oc else if ∃p∈cl,p.2=b then h.get? b else F b
section
theorem Fx(hc:cy D n cx env)(S:SR D F W env none st rv s.heap)(vn: ∀k sl,st.get k=some sl→ ∃t,sl= .aw t)
 {P c:Addr} (GY:F P=none) (Dl: ¬W P) (hP:s.heap.get? P=some (tabObj #[])) (C:CodeHd s.heap c P) (QN:env.code= .ref c) (hB:s.heap.BuiltinsAt D.mg P) (Kf:mainGlobals≠P)
 (rj: ∀p∈env.cells,W p.2)
 {name p1 p2:Str} {params:Arguments} {ce:Expr} {wY pos:Pos} {pH:Scope} {cl:List (Str×Addr)} (Ki:closureFor pH env=pure cl)
 (NI: ∀p∈cl,env.cells.lookup p.1=some p.2∧env.kindOf p.1=some .cell) (Tl:(cl.map (·.1)).Nodup) (Th: ∀p∈cl,pH.names.lookup p.1=some .free) (M7: ∀x,pH.names.lookup x=some .free→ ∃a,cl.lookup x=some a)
 {J2:Cx} (SO:eE D 19 J2) (X2:iZ J2.sc) (KH:J2.sc=pH) (UG:J2.sd=false) (QG:J2.own=false)
 (GH:params.defaults=[]) (NE:params.kw_defaults=[]) (ha:annTrees params none env=[]) (Yz:params.posonlyargs=[]) (tv:params.vararg=none) (YQ:params.kwonlyargs=[]) (YO:params.kwarg=none) (Za:params.args.map (·.arg)=[p1,p2]) (YA:[p1,p2].Nodup)
 (rE: ∀p∈[p1,p2],pH.names.lookup p=some .local∨pH.names.lookup p=some .cell)
 {b7:St} (KG: ∀k sl,b7.get k=some sl→ ∃x a,k= .v x∧cl.lookup x=some a∧st.get (.v x)=some sl) (KE:(b7.map (·.1)).Nodup) (KD:d5 b7=[])
 {g:Int→Int→Option Int} {m:Nat} (hg: ∀x y r,g x y=some r→I5 m J2 ce (d6 fg [p1,p2] [] [.int x,.int y] b7) (fun Y t st=>some (t,ci st))=some (.int r,none))
 (R1:env.kindOf name=some .local) {Q:Flow→Shared→Prop}
 (hq: ∀F' W' fx h' tk,dG F F'→(∀b o,F' b=some o→F b=some o∨s.heap.get? b=none∨W b)→(∀b,W' b→W b)→SR D F' W' env none (st.put (.v name) (.aw (.fn g))) fx h'→(∀b o,b≠P→ ¬W b→s.heap.get? b=some o→h'.get? b=some o)→(∃ps,h'.get? P=some (tabObj ps))→Q .next { s with heap:=h',toks:=tk }):
 wpAny (model D.prog D.w) A (exec (.FunctionDef name params [.Return (some ce) wY] [] none [] pH none name pos) env) Q E s:=by
 have Tr:P≠env.locals:=fun e=>Dl (by exact ae e S.pw.1)
 have Zc: ∀p∈env.cells,p.2≠P:=fun p hp e=>Dl (by exact ft e (rj p hp))
 have pL: ∀p∈cl,p∈env.cells:=fun p hp=>mem_lookup (NI p hp).1
 refine nestDef_K GH NE ha ?_
 refine makeFunction_K (mg:=D.mg) Ki hc.gl (D.g.keeps S.e9) QN C hP trivial rfl Kf hB fun c' W5 W3 h' tk hx NF gG UH RY=>?_
 generalize Xi:qualnameIn env name name=qual at*
 generalize M3:fnMade name qual params [.Return (some ce) wY] pH cl W3 ((D.mg "__name__").getD .none) c' W5=fo
 have Oq:fo.isFreed=false:=by exact ft M3 rfl
 obtain⟨ZK,oc,vs,t,e2,Tc,Tb,YE⟩:=UH
 obtain rfl:=eM e2
 have xg: ∀b o,b≠P→s.heap.get? b=some o→(h'.push fo).get? b=some o:=fun b o hb e=>bq _ (hx b o hb e)
 have QD:s.heap.objs.size≤h'.objs.size:=af NF (ca gG)
 have qf:s.heap.get? h'.objs.size=none:=Heap.get?_none_of_le QD
 have cf:s.heap.get? c'=none:=Heap.get?_none_of_le NF
 have GA: ∀b,s.heap.get? b=none→F b=none:=fun b e=>by
  induction z:F b using ab with
  |none=>rfl
  |some o=>exact Sn ((S.fz b o z).symm.trans e)
 have ex: ∀p∈cl,∃o,s.heap.get? p.2=some o:=fun p hp=>S.wx _ (rj p (pL p hp))
 generalize GK:F.nest s.heap cl c' oc h'.objs.size fo=F'
 have Fq:F' h'.objs.size=some fo:=by exact ft GK (aF rfl)
 have Fc:F' c'=some oc:=by exact ft GK ((az (dq gG)).trans ((aF rfl)))
 have Fp: ∀p∈cl,F' p.2=s.heap.get? p.2:=fun p hp=>by
  obtain⟨o,e⟩:=ex p hp
  refine ft GK ?_;unfold FH.nest
  exact(az (fun z=>by rw[z,qf]at e;exact nn e)).trans ((az (fun z=>by rw[z,cf]at e;exact nn e)).trans ((aF ⟨p,hp,rfl⟩)))
 have Fo: ∀b,b≠h'.objs.size→b≠c'→(¬ ∃p∈cl,p.2=b)→F' b=F b:=fun b h1 h2 h3=>by exact ft GK ((az h1).trans ((az h2).trans ((az h3))))
 have le:dG F F':=fun b o e=>by
  rw[Fo b (fun z=>by rw[z,GA _ qf]at e;exact nn e) (fun z=>by rw[z,GA _ cf]at e;exact nn e) ?_];exact e
  rintro⟨p,hp,rfl⟩
  exact fU (S.wf _ (rj p (pL p hp))) e
 have EM: ∀b o,F' b=some o→(b=h'.objs.size∧o=fo)∨(b=c'∧o=oc)∨(∃p∈cl,p.2=b∧s.heap.get? b=some o)∨F b=some o:=fun b o e=>by
  by_cases h1:b=h'.objs.size
  .subst h1;obtain rfl:=dZ Fq e;exact .inl ⟨rfl,rfl⟩
  .by_cases h2:b=c'
   .clear NF gG RY M3 e2 Tc cf GK Fo;subst h2;obtain rfl:=dZ Fc e;exact .inr (.inl ⟨rfl,rfl⟩)
   .by_cases h3: ∃p∈cl,p.2=b
    .obtain⟨p,hp,rfl⟩:=h3
     rw[Fp p hp]at e
     exact .inr (.inr (.inl ⟨p,hp,rfl,e⟩))
    .rw[Fo b h1 h2 h3]at e;exact .inr (.inr (.inr e))
 have fz:dG F' (h'.push fo).get?:=fun b o e=>by
  clear NF gG RY M3 Tb e2 cf GK Fq Fc Fo;rcases EM b o e with⟨rfl,rfl⟩|⟨rfl,rfl⟩|⟨p,hp,rfl,e⟩|e
  .exact bt _ Oq
  .exact bq _ Tc
  .exact xg _ _ (Zc p (pL p hp)) e
  .exact xg _ _ (fun z=>by rw[z,GY]at e;exact nn e) (S.fz b o e)
 have new: ∀b o,F' b=some o→F b=some o∨s.heap.get? b=none∨W b:=fun b o e=>by
  clear NF gG RY M3 Oq Tb e2 Tc xg GK Fq Fc Fo fz;rcases EM b o e with⟨rfl,rfl⟩|⟨rfl,rfl⟩|⟨p,hp,rfl,e⟩|e
  .exact .inr (.inl qf)
  .exact .inr (.inl cf)
  .exact .inr (.inr (rj p (pL p hp)))
  .exact .inl e
 have xf: ∀b o,s.heap.get? b=some o→W b→(h'.push fo).get? b=some o:=fun b o e w=>xg b o (fun z=>Dl (z▸w)) e
 have xr: ∀a v,W a→s.heap.IsCell a v→(h'.push fo).IsCell a v:=by rintro a v w ⟨o,e,d⟩;exact⟨o,xf a o e w,d⟩
 have Nu: ∀mm,s.heap.Ns env.locals mm→(h'.push fo).Ns env.locals mm:=fun mm x=>(x.extBut hx (fun z=>Tr z.symm)).push _
 have S':SR D F' (fun b=>W b∧ ∀p∈cl,p.2≠b) env none st rv (h'.push fo):=by
  refine⟨fz,S.base.trans le,fun b w=>?_,fun b w=>?_,fun k sl e=>?_,fun k sl e hh=>?_,fun k k' s1 s2 a e1 e2 m1=>?_,fun x v e=>?_,fun x v e=>(fun i C d q=>nomatch q),(fun i C d q=>nomatch q),⟨⟨S.pw.1,fun p hp=>hc.lc p (pL p hp)⟩,fun p hp=>?_⟩,⟨S.ma.1,fun i C d q=>nomatch q⟩,(fun i C d q=>nomatch q),?_,fun p hp=>?_⟩
  .obtain⟨o,e⟩:=S.wx b w.1
   rw[Fo b (fun z=>by rw[z,qf]at e;exact nn e) (fun z=>by rw[z,cf]at e;exact nn e) (by rintro⟨p,hp,z⟩;exact w.2 p hp z)]
   exact S.wf b w.1
  .obtain⟨o,e⟩:=S.wx b w.1
   exact⟨o,xf b o e w.1⟩
  .obtain⟨v,h1,h2⟩:=S.sl k sl e
   obtain⟨t,rfl⟩:=vn k sl e
   exact⟨v,h1,VR.mono le h2⟩
  .obtain⟨t,rfl⟩:=vn k sl e;exact ew hh
  .obtain⟨t,rfl⟩:=vn k s1 e1;exact ew m1
  .obtain⟨q1,q2⟩:=S.As x v e
   refine⟨fun z=>?_,fun z=>?_⟩
   .obtain⟨mm,h1,h2⟩:=q1 z;exact⟨mm,Nu mm h1,h2⟩
   .obtain⟨a,h1,h2⟩:=q2 z;exact⟨a,h1,xr a _ (rj _ (mem_lookup h1)) h2⟩
  .by_cases z: ∃p'∈cl,p'.2=p.2
   .obtain⟨p',GU,e⟩:=z
    obtain⟨o,eo⟩:=ex p' GU
    exact .inr ⟨o,by exact ft e ((Fp p' GU).trans eo)⟩
   .exact .inl ⟨rj p hp,fun p' GU e=>z ⟨p',GU,e⟩⟩
  .obtain⟨mm,h⟩:=S.Bt;exact⟨mm,Nu mm h⟩
  .obtain⟨v,h⟩:=S.tn p hp;exact⟨v,xr _ _ (rj p hp) h⟩
 have Be: ∀p∈cl,∀v,s.heap.IsCell p.2 v→ ∀h:Heap,dG F' h.get?→h.IsCell p.2 v:=by rintro p hp v ⟨o,e,d⟩ h GW;exact⟨o,GW _ _ (by exact(Fp p hp).trans e),d⟩
 have Q9: ∀x a,cl.lookup x=some a→(x,a)∈cl:=fun x a e=>mem_lookup e
 have C2:rG D F' pH cl b7 (fun k=>match k with| .v x=>(match cl.lookup x with|some _=>rv (.v x)|none=>none)| .a _=>none):=by
  refine⟨M7,?_,fun p hp=>?_,fun h GW p hp=>?_,Th,fun k sl e=>?_,fun y v e=>?_,fun y=>rfl,KE,KD⟩
  .have hn:=List.pairwise_map.mp Tl
   exact hn.imp_of_mem fun{a b} ha hb lw=>cells_apart hc.ap (NI a ha).1 (NI b hb).1 lw
  .obtain⟨o,e⟩:=ex p hp
   exact⟨o,by exact(Fp p hp).trans e⟩
  .obtain⟨v,h1⟩:=S.tn p (pL p hp)
   exact⟨v,Be p hp v h1 h GW⟩
  .obtain⟨x,a,rfl,h1,h2⟩:=KG k sl e
   obtain⟨t,rfl⟩:=vn _ _ h2
   obtain⟨v,h3,h4⟩:=S.sl _ _ h2
   exact⟨t,v,rfl,by refine(?_:(match cl.lookup x with|some _=>rv (.v x)|none=>none)=_);refine ae h1 ?_;exact h3,VR.mono le h4⟩
  .have e:(match cl.lookup y with|some _=>rv (.v y)|none=>none)=some v:=e
   induction z:cl.lookup y using ab with
   |none=>rw[z]at e;exact nn e
   |some a=>
    rw[z]at e
    have hm:=Q9 y a z
    obtain⟨_,q2⟩:=S.As y v e
    obtain⟨a',h1,h2⟩:=q2 (.inl (NI _ hm).2)
    obtain rfl:=dZ ((NI _ hm).1) h1
    exact⟨a,rfl,Be _ hm _ h2⟩
 have lU:mJ D.prog D.w F' (.ref h'.objs.size) g:=by
  have hd:fo.data= .func (fnX name qual params [.Return (some ce) wY] pH cl .none .none W3 ((D.mg "__name__").getD .none) none (.ref c') W5):=by exact ft M3 rfl
  refine CT (cx:=J2) (p1:=p1) (p2:=p2) (e:=ce) (pos:=wY) SO X2 UG QG Fq hd ?_ (fun h GW=>⟨c',oc,vs,t,rfl,GW _ _ Fc,Tb,YE⟩) rfl (by exact ae KH C2) (S.base.trans le) hg
  exact⟨Yz,tv,YQ,YO,Za,YA,rfl,KH.symm,rfl,rfl,by exact ae KH rE⟩
 have vr:D.VR F' (.fn g) (.ref h'.objs.size):=by
  exact .mk (t:= .fn g) ⟨⟨h'.objs.size,fo,_,rfl,Fq,by exact ft M3 rfl⟩,lU,rfl⟩ .nil
 refine gv (s:={ s with heap:=h'.push fo,toks:=tk }) hc.pl S' (.inl R1) (sl:= .aw (.fn g)) vr fun h2 We S2 k1 k2 al=>?_
 refine hq F' _ _ h2 We le new (fun b w=>w.1) S2 (fun b o hb hw e=>k1 b o (fun w=>hw w.1) (xg b o hb e)) ⟨_,k1 P _ (fun w=>Dl w.1) (bq _ RY)⟩
end
noncomputable def mG:List fG→St→St
 | [],st=>st
 |k::ks,st=>mG ks (match st.get k with|some (.own t)=>st.put k (.aw t)|_=>st)
set_option tactic.hygienic true in
theorem uT{Pr bj:FH}{aZ:Shared}{M O:Addr→Prop}{lv:Option Value}: ∀(ks:List fG){F:FH}{st:St},SR D F W env none st rv s.heap→cT cx env none Pr bj aZ M O lv F W st rv s→
 ∃F',SR D F' W env none (mG ks st) rv s.heap∧cT cx env none Pr bj aZ M O lv F' W (mG ks st) rv s:=by
 intro l_
 induction l_ with
 |nil=>intro F st S r;exact⟨F,S,r⟩
 |cons k ks ih=>
  intro F st S r
  unfold mG
  split
  .rename_i t h
   obtain⟨F',v,Y,Y,P,S'⟩:=S.ve h
   exact ih S' (r.ev P S S')
  .exact ih S r
theorem x8(hn:20≤n){Pr bj:FH}{aZ:Shared}{M O:Addr→Prop}{lv:Option Value}{vz:List Stmt}{Q:Flow→Shared→Prop}{k:St→aH}(hA:ey A n)(hc:cy D n cx env)
 (QF: ∀F' bB fx s',k bB=some out→SR D F' W env me bB fx s'.heap→cT cx env me Pr bj aZ M O lv F' W bB fx s'→wpAny (model D.prog D.w) A (execs vz env) Q E s')
 (Hb: ∀v s',ee D cx env me Pr bj aZ M O lv W k out (.ret v) s'→Q (.ret v) s'): ∀(m:Nat){pre:List Stmt}{F:FH}{st:St}{rv:RV}{s:Shared},bF m cx pre st k=some out→SR D F W env me st rv s.heap→cT cx env me Pr bj aZ M O lv F W st rv s→
 wpAny (model D.prog D.w) A (execs (pre++vz) env) Q E s:=by
 intro m
 induction m with
 |zero=>intro pre F st rv s h;exact nn h
 |succ m ih=>
  intro pre F st rv s h S r
  induction pre using aO with
  |nil=>exact QF F st rv s h S r
  |cons b bs=>
   refine wpAny_execs_cons (wm ((x9 (D:=D) hn m).1 (show ex m cx b st (fun st=>bF m cx bs st k)=some out from h) hA hc S r) ?_)
   intro f bk aP
   induction f using Flow.casesOn with
   |next=>
    obtain⟨bK,aR,kI,q1,q2,q3⟩:=aP
    exact ih q1 q2 q3
   |ret v=>exact Hb v bk aP
   |_=>exact aP.elim
structure zL(P:Params)(f Pt cd:Addr)(j:Nat)(name p1 p2:Str)(params:Arguments)(ce e:Expr)(wY pos Ku:Pos)(pH:Scope):Prop where
 sh:lP (KK P) f=true
 ps:rB (KK P) f=[S "program"]
 Sz:(gi (KK P) f).defaults= .none
 body:aL (KK P) f=(aL (KK P) f).take j++[.FunctionDef name params [.Return (some ce) wY] [] none [] pH none name pos,.Return (some e) Ku]
 code:(gi (KK P) f).code= .ref cd
 d0:params.defaults=[]
 k0:params.kw_defaults=[]
 an: ∀env,annTrees params none env=[]
 po:params.posonlyargs=[]
 va:params.vararg=none
 ko:params.kwonlyargs=[]
 kw:params.kwarg=none
 ar:params.args.map (·.arg)=[p1,p2]
 pn:[p1,p2].Nodup
 lo: ∀p∈[p1,p2],pH.names.lookup p=some .local∨pH.names.lookup p=some .cell
 ok:gw pH=true
 fr:pH.names.all (fun p=>decide (p.2= .free→(dF (KK P) f).names.lookup p.1=some .cell))=true
 nm:(dF (KK P) f).names.lookup name=some .local
 pl:(dF (KK P) f).names.lookup (S "program")=some .local∨(dF (KK P) f).names.lookup (S "program")=some .cell
theorem uQ(hD:Good D)(hn:20≤n){f Pt cd:Addr}{j:Nat}{name p1 p2:Str}{params:Arguments}{ce e:Expr}{wY pos Ku:Pos}{pH:Scope}(L:zL D.w.params f Pt cd j name p1 p2 params ce e wY pos Ku pH)
 {J3:Cx} (tc:eE D n { J3 with sc:=dF (KK D.w.params) f,own:=false }) (SO:eE D 19 { bx [] []with sc:=pH,own:=false,sd:=false })
 {T:MV} {qk vd:St} {ks:List fG} (Hc: ∀k,bF 60 { J3 with sc:=dF (KK D.w.params) f,own:=false } ((aL (KK D.w.params) f).take j) [(.v (S "program"),.aw T)] k=k qk) (YX:mG ks qk=vd) (vn: ∀k sl,vd.get k=some sl→ ∃t,sl= .aw t)
 {b7:St} (KG: ∀p∈b7,∃x,p.1= .v x∧pH.names.lookup x=some .free∧vd.get (.v x)=some p.2) (KE:(b7.map (·.1)).Nodup) (KD:d5 b7=[])
 {g:Int→Int→Option Int} {m:Nat} (hg: ∀x y r,g x y=some r→I5 m { bx [] []with sc:=pH,own:=false,sd:=false } ce (d6 fg [p1,p2] [] [.int x,.int y] b7) (fun Y t st=>some (t,ci st))=some (.int r,none))
 {res:MV} {m2:Nat} (Hb:ev m2 { J3 with sc:=dF (KK D.w.params) f,own:=false } e (vd.put (.v name) (.aw (.fn g))) (fun Y t Y=>some (t,none))=some (res,none))
 {A:Around} {F:FH} {s:Shared} {vp:Value} {Q E:Value→Shared→Prop} (hA:ey A (n+1)) (hb:dG D.h₀.get? F) (qs:dG F s.heap.get?) (GY:F Pt=none) (hP:s.heap.get? Pt=some (tabObj #[])) (C:CodeHd s.heap cd Pt) (hB:s.heap.BuiltinsAt D.mg Pt) (Kf:mainGlobals≠Pt)
 (hv:D.VR F T vp)
 (hq: ∀F' h' tk v,dG F F'→dG F' h'.get?→(∀b o,F' b=some o→F b=some o∨s.heap.get? b=none)→(∀b o,b≠Pt→s.heap.get? b=some o→h'.get? b=some o)→(∃ps,h'.get? Pt=some (tabObj ps))→D.VR F' res v→Q v { s with heap:=h',toks:=tk }):
 wpAny (model D.prog D.w) A (call (.ref f) [vp]) Q E s:=by
 obtain⟨⟨o,ho,hd⟩,sh,W6,Zr,kd,ok,free⟩:=wc L.sh
 have hk:=hD.k
 have X:D.K.In s.heap:=fun a o e=>qs _ _ (hb _ _ (D.X a o e))
 have tw:D.K.lookup f=some o:=by exact ae hk ho
 refine wpAny_call (u3 (cx:={ J3 with sc:=dF (KK D.w.params) f,own:=false }) (n:=n) (vs:=[vp]) (F:=F) (b7:=[]) (gY:=fun Y=>none) (aR:=[(.v (S "program"),.aw T)]) (kI:=jp [S "program"] [vp] fun Y=>none) tc (iD ok) (X _ _ tw) hd (by rw[L.ps]at sh;exact sh) (codeRec_of X (by exact ae hk Zr)) (.inl ⟨L.Sz,rfl⟩) (fun Y=>by exact ae hk kd) (by exact ae W6 (rG.nil free)) hA hb qs rfl ?_ ?_)
 .intro env W h Q E A hp S keep wn qA go
  refine ic (s:={ s with heap:=h }) (ms:=[]) (ts:=[T]) hp qA S (kn (dm.cons hv dm.nil)) (by exact ae (im ..) List.nodup_nil) (by exact ae (im ..) (fun Y h=>nomatch h)) fun h' tk S' k1 al=>?_
  exact go h' tk (S'.Bu (kU (lr.refl _))) k1 al
 .intro A' env W h' tk E' M9 hc S keep wn cw ec eg W1 eW es
  have fr:cT { J3 with sc:=dF (KK D.w.params) f,own:=false } env none (fun Y=>none) F s (fun Y=>False) (fun Y=>False) none F W [(.v (Mine.S "program"),.aw T)] (jp [Mine.S "program"] [vp] fun Y=>none) { s with heap:=h',toks:=tk }:=by
   have aw: ∀k sl,St.get [(.v (Mine.S "program"),.aw T)] k=some sl→ ∃t,sl= .aw t:=by
    intro k sl hk
    have:=d9 hk
    clear hk;rcases aA.mp this with q|q
    .obtain⟨rfl,rfl⟩:=cV q;exact⟨_,rfl⟩
    .exact jZ q
   refine⟨⟨h',tk,rfl⟩,dG.refl F,fun b o e=> .inl e,fun b o e Y=>keep b o e,fun b e=>?_,fun k t b h1 h2=>?_,fun k t h1=>?_,fun b h=>h.elim,fun b h=>(nomatch h),wn,cw,fun b o e=>(nomatch e),fun i C d e=>(nomatch e)⟩
   .induction z:s.heap.get? b using ab with
    |none=>exact absurd z e
    |some o=>exact ae (show({ s with heap:=h',toks:=tk }:Shared).heap.get? b=some o from keep b o z) (fun z=>nomatch z)
   .obtain⟨t',q⟩:=aw k _ h1;cases q
   .obtain⟨t',q⟩:=aw k _ h1;cases q
  have rj: ∀p∈env.cells,W p.2:=by
   intro p hp
   rw[W1,W6]at hp
   refine ae eW ?_
   exact .inr ⟨p,hp,rfl⟩
  refine ae L.body ?_
  classical
  refine x8 hn (cx:={ J3 with sc:=dF (KK D.w.params) f,own:=false }) (k:=fun st=>if st=qk then some (MV.none,some MV.none)else none) (out:=(MV.none,some MV.none)) M9 hc ?_ ?_ 60 (by exact(Hc ..).trans ((aF rfl))) S fr
  .intro F1 bB Wj s1 q1 q2 q3
   have z:bB=qk:=by
    by_cases z:bB=qk
    .exact z
    .have q1:(if bB=qk then some (MV.none,some MV.none)else none)=some (MV.none,some MV.none):=q1
     exact fU (az z) q1
   clear Hc q1;subst z
   obtain⟨F2,S2,r2⟩:=uT ks q2 q3
   rw[YX]at S2 r2
   have UR:F2 Pt=none:=by
    induction z:F2 Pt using ab with
    |none=>rfl
    |some o=>
     rcases r2.new Pt o z with q|q|q
     .exact fU GY q
     .exact Sn (hP.symm.trans q)
     .exact q.elim
   have lQ: ∀b o,s.heap.get? b=some o→s1.heap.get? b=some o:=fun b o e=>r2.keep b o e fun h=>h
   have Dl: ¬W Pt:=fun w=>by exact fU (wn Pt w) hP
   have Il:=dg.mp L.fr
   have Kk:=iD L.ok
   have iT: ∀x,pH.names.lookup x=some .free→ ∃a,env.cells.lookup x=some a∧env.kindOf x=some .cell:=fun x hx=>by
    have hm:=dR hx
    have h1:(dF (KK D.w.params) f).names.lookup x=some .cell:=aj (Il _ hm) rfl
    obtain⟨a,ha⟩:=hc.cs x _ h1 (.inl rfl)
    exact⟨a,ha,hc.nc x h1⟩
   have uu: ∀p∈pH.names,p.2= .free→ ∃a,env.cells.lookup p.1=some a:=fun p hp e=>by
    obtain⟨a,ha,Y⟩:=iT p.1 (by exact ft e (fm Kk.nd hp))
    exact⟨a,ha⟩
   have Ki:=j8 uu
   have TF: ∀p∈cR env pH.names [],(p.1,NameKind.free)∈pH.names∧env.cells.lookup p.1=some p.2:=fun p hp=>jc uu hp
   clear q2 q3;obtain⟨h1,ZS,MZ⟩:=r2.sh
   refine wpAny_execs_cons ?_
   refine Fx (s:=s1) (n:=n) (st:=vd) (cl:=cR env pH.names []) (J2:={ bx [] []with sc:=pH,own:=false,sd:=false }) (b7:=b7) (g:=g) (m:=m) hc S2 vn UR Dl (lQ Pt _ hP) (C.keeps lQ) (by exact ec.trans L.code) ?_ Kf rj Ki (fun p hp=>?_) (jC Kk.nd).1 (fun p hp=>fm Kk.nd (TF p hp).1) (fun x hx=>?_) SO Kk rfl rfl rfl L.d0 L.k0 (L.an env) L.po L.va L.ko L.kw L.ar L.pn L.lo ?_ KE KD hg (hc.nl name L.nm) fun F' W' fx h2 We le new ZN S3 JA gr=>?_
   .obtain⟨bm,ob,b1,b2,b3,b4,b5,b6⟩:=hB
    exact⟨bm,ob,b1,b2,b3,b4,lQ _ _ b5,b6⟩
   .refine⟨(TF p hp).2,?_⟩
    obtain⟨Y,Y,hk⟩:=iT p.1 (fm Kk.nd (TF p hp).1)
    exact hk
   .obtain⟨a,ha,Y⟩:=iT x hx
    exact⟨a,iM Kk.nd (dR hx) ha⟩
   .intro k sl hk
    obtain⟨x,q1,q2,q3⟩:=KG _ (d9 hk)
    obtain⟨a,ha,Y⟩:=iT x q2
    exact⟨x,a,q1,iM Kk.nd (dR q2) ha,q3⟩
   .dsimp only
    refine wpAny_execs_cons (wpAny_Return_some (wm ((iC hn m2 Hb).2 M9 hc S3) ?_))
    clear Hb S2;rintro v s3 ⟨F4,o',t,ZW,YS,P4,S4,WD,WN⟩
    obtain rfl:t=res:=(cV (Option.some.inj YS)).1
    obtain⟨F5,S5,P5,Yn⟩:=hE.freeze S4 P4 WD WN
    have jO: ∀b,¬kg (vd.put (.v name) (.aw (.fn g))) fx b:=by
     rintro b ⟨k,sl,hk,hm,Y⟩
     rw[St.eP]at hk
     split at hk
     .obtain rfl:=Option.some.inj hk;exact ew hm
     .obtain⟨t,rfl⟩:=vn k sl hk;exact ew hm
    clear P4 S4 WD WN;obtain⟨h5,XH,rfl⟩:=P5.sh
    subst MZ
    refine hq F5 h5 XH v (r2.le.trans (le.trans P5.le)) S5.fz (fun b o e=>?_) (fun b o hb e=>?_) ?_ Yn
    .rcases P5.new b o e with q|q|q
     .rcases new b o q with q|q|q
      .rcases r2.new b o q with q|q|q
       .exact .inl q
       .exact .inr q
       .exact q.elim
      .exact .inr (by
        induction z:s.heap.get? b using ab with
        |none=>rfl
        |some o'=>have:=lQ b o' z;exact fU q this)
      .exact .inr (wn b q)
     .exact .inr (by
       induction z:s.heap.get? b using ab with
       |none=>rfl
       |some o'=>
        by_cases WQ:b=Pt
        .obtain⟨ps,hp⟩:=gr
         rw[WQ]at q
         have q:h2.get? Pt=none:=q
         exact Sn (hp.symm.trans q)
        .have:=JA b o' WQ (fun w=>by exact fU (wn b w) z) (lQ b o' z)
         have q:h2.get? b=none:=q
         exact Sn (this.symm.trans q))
     .exact absurd q (jO b)
    .exact P5.keep b o (JA b o hb (fun w=>by exact fU (wn b w) e) (lQ b o e)) (jO b)
    .obtain⟨ps,hp⟩:=gr
     exact⟨ps,P5.keep Pt _ hp (jO Pt)⟩
  .rintro v s' ⟨F',bB,fx,t,he,S',r',Y⟩
   have hl:ci bB=some .none:=(cV he).2.symm
   obtain⟨k,hk⟩:=i9 S'.nd hl
   have h1:=r'.kG k _ hk
   obtain⟨v',h2,Y⟩:=S'.sl k _ hk
   exact fU h1 h2
noncomputable abbrev zi:List c8:=[.aw,.own,.aw,.aw]
noncomputable def AD(se:U4 (List MV)):ej:=⟨zi,false,fun ts K=>aC ts fun a l=>aC l fun b l=>aC l fun c l=>aC l fun d l=>a0 l <| se a b c d fun r=>K (.list r) none⟩
noncomputable def qY(P:Params):U4 (List MV):=fun a b c d k=>I8 f9 (cB P 60 (za P) 576 zi false [a,b,c,d]) k
theorem Hz{P:Params}{K:MV→Option MV→aH}{o:MV×Option MV}(h:(AD (qY P)).run ts K=some o):(bZ P 60 (za P) 576 zi false []).run ts K=some o:=by
 obtain⟨a,l,rfl,h⟩:=bL h
 obtain⟨b,l,rfl,h⟩:=bL h
 obtain⟨c,l,rfl,h⟩:=bL h
 obtain⟨d,l,rfl,h⟩:=bL h
 obtain⟨rfl,g⟩:=cm h
 clear h
 have h:I8 f9 (cB P 60 (za P) 576 zi false [a,b,c,d]) (fun r=>K (.list r) none)=some o:=g
 obtain⟨r,x,e1,e2,e3⟩:=l6 h
 subst e2
 exact(gL (dflt:=[]) (ts:=[a,b,c,d]) (Sw:=[a,b,c,d]) rfl (show fY P 576 zi [] [a,b,c,d]=true by kernel_rfl) e1 rfl).trans e3
theorem JQ(hD:Good D):aV D 27 (S "settle") (AD (qY D.w.params)):=by
 have tc:eE D 26 (za D.w.params):=dV hD (ay (Ox hD) (by decide) bz) (dM (zm hD) (by decide) cX)
 have h:cS D 27 (.ref 576) (bZ D.w.params 60 (za D.w.params) 576 zi false []):=gK hD (by decide) tc (by kernel_rfl) (by kernel_rfl) rfl
 exact fk hD h (by kernel_rfl) rfl rfl fun Y Y Y h=>Hz h
theorem Ee{P:Params}{os:List Od}{n0:Nat}(X:PG P os n0){g:Int→Int→Option Int}{ah:Nat→Nat→Nat}(hg: ∀i m:Nat,i<os.length→g (i:Int) (m:Int)=some (ah i m:Nat))(hc:iter (dx os ah) os.length os.length=iter (dx os ah) os.length (os.length+1)):
 ∀k,qY P (ax os n0) (.list (nl (List.replicate os.length 0))) (.int 0) (.fn g) k=k (nl (iter (dx os ah) os.length os.length)):=fun k=>
 cZ (T:=f9) (x:=nl (iter (dx os ah) os.length os.length)) (o:=cB P 60 (za P) 576 zi false [ax os n0,.list (nl (List.replicate os.length 0)),.int 0,.fn g]) (Le X hg hc) k
noncomputable def TA{β:Type}(b:List Stmt)(j:Nat)(d:β)(k:Str→Arguments→List Stmt→Scope→β):β:=atS b j d fun s=>if h:s.ctorIdx=0 then Stmt.FunctionDef.elim (motive_2:=fun Y=>β) s h (fun n a b Y Y Y sc Y Y Y=>k n a b sc)else d
noncomputable def JN(b:List Stmt)(j:Nat):Arguments:=TA b j ⟨[],[],none,[],[],none,[]⟩ fun Y a Y Y=>a
noncomputable def Sb(b:List Stmt)(j:Nat):List Stmt:=TA b j [] fun Y Y b Y=>b
noncomputable def Ow(b:List Stmt)(j:Nat):Scope:=TA b j ⟨.function,[],false,false,[]⟩ fun Y Y Y s=>s
noncomputable def uj(b:List Stmt)(j:Nat):Pos:=atS b j default Stmt.pos
noncomputable abbrev Wr:Str:=S "registers_ahead"
noncomputable abbrev Wq:Str:=S "slots_ahead"
noncomputable abbrev bR(P:Params):List Stmt:=aL (KK P) 581
noncomputable abbrev bS(P:Params):List Stmt:=aL (KK P) 621
noncomputable def W8(P:Params):Expr:=fL (vy (Sb (bR P) 1) 0)
noncomputable def eR(P:Params):Expr:=fL (vy (bR P) 2)
noncomputable def Wh(P:Params):Scope:=Ow (bR P) 1
theorem XU(P:Params):zL P 581 578 580 1 Wr (S "at") (S "mask") (JN (bR P) 1) (W8 P) (eR P) (uj (Sb (bR P) 1) 0) (uj (bR P) 1) (uj (bR P) 2) (Wh P):=
 { sh:=by kernel_rfl,ps:=by kernel_rfl,Sz:=by kernel_rfl,body:=by kernel_rfl,code:=by kernel_rfl,d0:=by kernel_rfl,k0:=by kernel_rfl,an:=fun env=>by kernel_rfl,po:=by kernel_rfl,va:=by kernel_rfl,ko:=by kernel_rfl,kw:=by kernel_rfl,ar:=by kernel_rfl,pn:=by decide,ok:=by kernel_rfl,fr:=by kernel_rfl,nm:=by kernel_rfl,pl:= .inl (by kernel_rfl)
   lo:=fun p hp=>(by
    rcases aA.mp hp with rfl|hp
    .exact .inl (by kernel_rfl)
    .rcases aA.mp hp with rfl|hp
     .exact .inl (by kernel_rfl)
     .exact jZ hp)}
noncomputable def W7(P:Params):Expr:=fL (vy (Sb (bS P) 3) 0)
noncomputable def eS(P:Params):Expr:=fL (vy (bS P) 4)
noncomputable def Wg(P:Params):Scope:=Ow (bS P) 3
theorem XT(P:Params):zL P 621 618 620 3 Wq (S "at") (S "mask") (JN (bS P) 3) (W7 P) (eS P) (uj (Sb (bS P) 3) 0) (uj (bS P) 3) (uj (bS P) 4) (Wg P):=
 { sh:=by kernel_rfl,ps:=by kernel_rfl,Sz:=by kernel_rfl,body:=by kernel_rfl,code:=by kernel_rfl,d0:=by kernel_rfl,k0:=by kernel_rfl,an:=fun env=>by kernel_rfl,po:=by kernel_rfl,va:=by kernel_rfl,ko:=by kernel_rfl,kw:=by kernel_rfl,ar:=by kernel_rfl,pn:=by decide,ok:=by kernel_rfl,fr:=by kernel_rfl,nm:=by kernel_rfl,pl:= .inr (by kernel_rfl)
   lo:=fun p hp=>(by
    rcases aA.mp hp with rfl|hp
    .exact .inl (by kernel_rfl)
    .rcases aA.mp hp with rfl|hp
     .exact .inl (by kernel_rfl)
     .exact jZ hp)}
noncomputable abbrev Ea(rm:U1 MV)(se:U4 (List MV)):Cx:=bx [(S "register_masks",s1 mX rm),(S "settle",AD se)] []
noncomputable def wX(P:Params)(rm:U1 MV)(se:U4 (List MV)):Cx:={ Ea rm se with sc:=dF (KK P) 581,own:=false }
noncomputable def RJ(P:Params):Option Expr:=w6 (bR P) 0
theorem Ur(P:Params)(rm:U1 MV)(se:U4 (List MV))(os sl:List MV)(n:Nat)(ks:List Int)(ts:List MV)(many:Int)(bp:List MV)(k:St→aH):bF 60 (wX P rm se) ((bR P).take 1) [(.v (S "program"),.aw (aK os sl n ks ts many bp))] k=
 bif aQ os.length then dS 57 (wX P rm se) (S "order") (RJ P) os [] [] fun us=>k [(.v (S "program"),.aw (aK os sl n ks ts many bp)),(.v (S "pairs"),.own (.list us))]else none:=by kernel_rfl
theorem Uu(P:Params)(rm:U1 MV)(se:U4 (List MV))(t:MV)(k:KT):ev 57 { wX P rm se with sc:=tH (RJ P)} (fL (gu (RJ P))) [(.v (S "order"),.aw t)] k=rm t fun r=>k false r [(.v (S "order"),.aw t)]:=by kernel_rfl
noncomputable abbrev TE(sc:Scope):Cx:={ bx [] []with sc:=sc,own:=false,sd:=false }
noncomputable def gT(pl:List MV)(a mk:Int):aH:=ea (.list pl) (.int a) fun p=>ea p (.int 1) fun w=>MS .Invert w fun nw=>m5 .BitAnd (.int mk) nw fun Y x=>ea (.list pl) (.int a) fun p=>ea p (.int 0) fun r=>m5 .BitOr x r fun Y z=>some (z,none)
theorem Q8{α:Type}{c:Bool}{x:Option α}{r:α}(h:(bif c then x else none)=some r):c=true∧x=some r:=by
 induction c using ag with
 |true=>exact⟨rfl,h⟩
 |false=>exact nn h
noncomputable def DW(o:aH):Option Int:=o.bind fun q=>bif q.2.isNone then dI q.1 some else none
theorem xR{o:aH}{r:Int}(h:DW o=some r):o=some (.int r,none):=by
 obtain⟨⟨t,z⟩,rfl,g⟩:=cL h
 obtain⟨hz,g⟩:=Q8 g
 obtain⟨i,rfl,g⟩:=dE g
 obtain rfl:=b8 g
 exact aB (fun z=>some (MV.int i,z)) (Option.isNone_iff_eq_none.mp hz)
theorem Us(P:Params)(pl:List MV)(a mk:Int):I5 20 (TE (Wh P)) (W8 P) (d6 fg [S "at",S "mask"] [] [.int a,.int mk] [(.v (S "pairs"),.aw (.list pl))]) (fun Y t st=>some (t,ci st))=gT pl a mk:=by kernel_rfl
noncomputable def RA(P:Params):Option Expr:=oC (eR P) (fun Y as Y=>as[1]?) none
theorem Ut(P:Params)(rm:U1 MV)(se:U4 (List MV))(os sl:List MV)(n:Nat)(ks:List Int)(ts:List MV)(many:Int)(bp pl:List MV)(g:Int→Int→Option Int):
 ev 60 (wX P rm se) (eR P) ([(.v (S "program"),.aw (aK os sl n ks ts many bp)),(.v (S "pairs"),.aw (.list pl)),(.v Wr,.aw (.fn g))]) (fun Y t Y=>some (t,none))=
 bif aQ os.length then dS 58 (wX P rm se) (S "order") (RA P) os [] [] fun us=>se (aK os sl n ks ts many bp) (.list us) (.int 0) (.fn g) fun r=>some (.list r,none)else none:=by kernel_rfl
theorem Uq(P:Params)(rm:U1 MV)(se:U4 (List MV))(t:MV)(k:KT):ev 58 { wX P rm se with sc:=tH (RA P)} (fL (gu (RA P))) [(.v (S "order"),.aw t)] k=k false (.int 0) [(.v (S "order"),.aw t)]:=by kernel_rfl
theorem xw:List.replicate n (MV.int 0)=nl (List.replicate n 0):=by refine(?_:_=(List.replicate n 0).map _);exact ae List.map_replicate rfl
section
variable{P:Params}{os:List Od}{n0:Nat}
noncomputable abbrev Dm(a b:Nat):MV:= .tup [.int (a:Int),.int (b:Int)]
noncomputable def ze(os:List Od):List MV:=os.map fun o=>Dm (dA 11 o.reads) (dA 11 o.writes)
theorem nL(hs:st=[]∨ ∃old,st=[(.v x,.aw old)]):st.put (.v x) (.aw t)=[(.v x,.aw t)]:=by
 rcases hs with rfl|⟨old,rfl⟩
 .rfl
 .refine(?_:(if(.v x:fG)= .v x then _ else _)=_)
  exact aF rfl
theorem FI(X:PG P os n0){se:U4 (List MV)}{k:List MV→aH}: ∀(l:List Od)(_: ∀o∈l,o∈os){st:St}(_:st=[]∨ ∃old,st=[(.v (S "order"),.aw old)])(acc:List MV),dS 57 (wX P (zf P) se) (S "order") (RJ P) (l.map Od.t) st acc k=k (acc++ze l):=by
 intro l_
 induction l_ with
 |nil=>intro _ st hs acc;refine ae dw ((eO (by kernel_rfl)).trans ?_);refine(?_:_=k (acc++[]));exact ae (bG ..) rfl
 |cons o l ih=>
  intro h st hs acc
  obtain⟨i,hi⟩:=List.mem_iff_getElem?.mp (h o (.head _))
  refine ae bv ((fA (by kernel_rfl) (by kernel_rfl)).trans (ae (nL hs) ?_))
  refine(Uu P _ _ _ _).trans ?_
  exact((X.ok i o hi).Rx ..).trans (ae (ih (fun o ho=>h o (.tail _ ho)) (.inr ⟨_,rfl⟩) ..) (ae (bE ..) rfl))
theorem FG{rm:U1 MV}{se:U4 (List MV)}{k:List MV→aH}: ∀(l:List MV){st:St}(_:st=[]∨ ∃old,st=[(.v (S "order"),.aw old)])(acc:List MV),dS 58 (wX P rm se) (S "order") (RA P) l st acc k=k (acc++List.replicate l.length (.int 0)):=by
 intro l_
 induction l_ with
 |nil=>intro st hs acc;refine(eO (by kernel_rfl)).trans ?_;refine(?_:_=k (acc++[]));exact ae (bG ..) rfl
 |cons t l ih=>
  intro st hs acc
  refine(fA (by kernel_rfl) (by kernel_rfl)).trans (ae (nL hs) ?_)
  refine(Uq P _ _ _ _).trans ?_
  exact(ih (.inr ⟨_,rfl⟩) ..).trans (ae (bE ..) rfl)
noncomputable def IU(os:List Od)(i:Nat):Nat:=match os[i]? with
 |some o=>dA 11 o.reads
 |none=>0
noncomputable def IN(os:List Od)(i:Nat):Nat:=match os[i]? with
 |some o=>dA 11 o.writes
 |none=>0
theorem Fa{o:Od}(h:os[i]? =some o):(ze os)[i]? =some (Dm (dA 11 o.reads) (dA 11 o.writes)):=by refine(bA).trans (ae h ?_);rfl
theorem JM{pl:List MV}{i a b m:Nat}(hl:pl.length≤1000)(h:pl[i]? =some (Dm a b)):gT pl (i:Int) (m:Int)=some (.int ((kO m b ||| a:Nat):Int),none):=by
 refine(dP hl h).trans ?_
 refine(dP hl h).trans (ae (bitAnd_not ..) ?_)
 refine(?_:some (MV.int (Builtin.bitOr ((kO m b:Nat):Int) (a:Int)),none)=_)
 exact ae (qe ..) rfl
noncomputable def Kn(os:List Od)(i m:Nat):Nat:=kO m (IN os i) ||| IU os i
noncomputable def gR(P:Params)(os:List Od)(a m:Int):Option Int:=DW (gT (ze os) a m)
theorem QS(X:PG P os n0)(i m:Nat)(h:i<os.length):gR P os (i:Int) (m:Int)=some (Kn os i m:Nat):=by
 obtain⟨o,ho⟩:=gp h
 have lim:=X.lim
 delta gR
 refine ae (JM (by delta ze;rw[ai];exact af ‹_› (aa rfl)) (Fa ho)) ?_
 delta Kn IU IN
 exact ae ho rfl
theorem AW{r w:Nat→Nat}:dx os (fun i m=>kO m (w i) ||| r i)=f5 (jn os) r w fun Y=>false:=by
 funext i f
 delta f5
 exact ae (az (fun h=>nomatch h)) rfl
theorem H6:iter (dx os (Kn os)) os.length os.length=iter (dx os (Kn os)) os.length (os.length+1):=by
 refine ae (show dx os (Kn os)=f5 (jn os) (IU os) (IN os) fun Y=>false from AW) ?_
 exact mN oO _ (bn _)
end
noncomputable def lx(os:List Od):List Nat:=iter (f5 (jn os) (IU os) (IN os) fun Y=>false) os.length os.length
theorem N1(hD:Good D)(sc:Scope):eE D 19 (TE sc):=by
 have:=dV hD (n:=19) bz cX
 exact⟨this.glob,this.bi,this.fn,this.pA,this.attr⟩
theorem FL(hD:Good D){os:List Od}{n0:Nat}(X:PG D.w.params os n0)
 {A:Around} {F:FH} {s:Shared} {vp:Value} {Q E:Value→Shared→Prop} (hA:ey A 29) (hb:dG D.h₀.get? F) (qs:dG F s.heap.get?) (GY:F 578=none) (hP:s.heap.get? 578=some (tabObj #[])) (C:CodeHd s.heap 580 578) (hB:s.heap.BuiltinsAt D.mg 578) (Kf:mainGlobals≠578)
 (hv:D.VR F (ax os n0) vp)
 (hq: ∀F' h' tk v,dG F F'→dG F' h'.get?→(∀b o,F' b=some o→F b=some o∨s.heap.get? b=none)→(∀b o,b≠578→s.heap.get? b=some o→h'.get? b=some o)→(∃ps,h'.get? 578=some (tabObj ps))→D.VR F' (.list (nl (lx os))) v→Q v { s with heap:=h',toks:=tk }):
 wpAny (model D.prog D.w) A (call (.ref 581) [vp]) Q E s:=by
 have lim:=X.lim
 have tc:eE D 28 (Ea (zf D.w.params) (qY D.w.params)):=dV hD (ay (QQ hD) (by decide) (ay (JQ hD) (by decide) bz)) cX
 have hl:(cW os).length=os.length:=ai ..
 have hz:aQ (cW os).length=true:=bo (by lia)
 refine uQ hD (n:=28) (by decide) (XU D.w.params) (J3:=Ea (zf D.w.params) (qY D.w.params)) (tc.Sv _ _) (N1 hD _) (T:=ax os n0) (qk:=[(.v (S "program"),.aw (ax os n0)),(.v (S "pairs"),.own (.list (ze os)))]) (vd:=[(.v (S "program"),.aw (ax os n0)),(.v (S "pairs"),.aw (.list (ze os)))]) (ks:=[.v (S "pairs")])
  (fun k=>?_) (by kernel_rfl) (fun k sl h=>?_) (b7:=[(.v (S "pairs"),.aw (.list (ze os)))]) (fun p hp=>?_) (by simp) rfl (g:=gR D.w.params os) (m:=20) (fun x y r h=>(Us D.w.params _ _ _).trans (xR h)) (res:= .list (nl (lx os))) (m2:=60) ?_ hA hb qs GY hP C hB Kf hv hq
 .refine(Ur D.w.params (zf D.w.params) (qY D.w.params) _ _ _ _ _ _ _ k).trans ?_
  exact ae hz ((ao ..).trans ((FI X os (fun o h=>h) (.inl rfl) ..).trans rfl))
 .rcases aA.mp (d9 h)with q|q
  .obtain⟨rfl,rfl⟩:=cV q;exact⟨_,rfl⟩
  .rcases aA.mp q with q|q
   .obtain⟨rfl,rfl⟩:=cV q;exact⟨_,rfl⟩
   .exact jZ q
 .refine ae (cj.mp hp) ?_
  exact⟨S "pairs",rfl,by kernel_rfl,by kernel_rfl⟩
 .refine(Ut D.w.params (zf D.w.params) (qY D.w.params) _ _ _ _ _ _ _ _ (gR D.w.params os)).trans ?_
  refine ae hz ((ao ..).trans ((FG _ (.inl rfl) ..).trans (ae (dd ..) (ae hl (ae xw ?_)))))
  refine(Ee X (g:=gR D.w.params os) (ah:=Kn os) (fun i m h=>QS X i m h) H6 _).trans ?_
  exact ae (show dx os (Kn os)=f5 (jn os) (IU os) (IN os) fun Y=>false from AW) rfl
noncomputable def zo(P:Params)(lf:U1 Bool)(so:U2 Int):Cx:={ bx [(S "leaks_frame",s1 gb lf)] [((462,S "sub_of"),s2 ed so)]with sc:=dF (KK P) 616,own:=false }
noncomputable def RS(P:Params):List Stmt:=j1 (aL (KK P) 616) 1
section
variable(P:Params)(lf:U1 Bool)(so:U2 Int)(os sl:List MV)(n:Nat)(ks:List Int)(ts:List MV)(many:Int)(bp:List MV)
noncomputable abbrev wM(T:MV)(fs:List MV)(tail:St):St:=(.v (S "program"),.aw T)::(.v (S "found"),.own (.list fs))::tail
noncomputable abbrev XG(a o:MV):St:=[(.v (S "at"),.aw a),(.v (S "order"),.aw o)]
noncomputable abbrev Au(a o s:MV):St:=[(.v (S "at"),.aw a),(.v (S "order"),.aw o),(.v (S "sub"),.aw s)]
theorem Uo(k:St→aH):bF 60 (zo P lf so) (aL (KK P) 616) [(.v (S "program"),.aw (aK os sl n ks ts many bp))] k=
 bif aQ os.length then rQ (bF 57 (zo P lf so) (RS P)) (S "at") (S "order") os 0 (wM (aK os sl n ks ts many bp) [] []) (fun st=>bF 58 (zo P lf so) ((aL (KK P) 616).drop 2) st k)else none:=by kernel_rfl
theorem Ql(T:MV)(fs:List MV)(a:Int)(o:MV)(k:St→aH):bF 57 (zo P lf so) (RS P) (wM (aK os sl n ks ts many bp) fs (XG (.int a) o)) k=
 so (aK os sl n ks ts many bp) (.int a) fun s=>lf o fun b=>bif b then(eN .NotIn (.int s) (.list fs) fun c=>bif c then(bif aQ fs.length then k (wM (aK os sl n ks ts many bp) (fs++[.int s]) (Au (.int a) o (.int s)))else none)else k (wM (aK os sl n ks ts many bp) fs (Au (.int a) o (.int s))))else k (wM (aK os sl n ks ts many bp) fs (Au (.int a) o (.int s))):=by kernel_rfl
theorem Qk(T:MV)(fs:List MV)(a:Int)(o s0:MV)(k:St→aH):bF 57 (zo P lf so) (RS P) (wM (aK os sl n ks ts many bp) fs (Au (.int a) o s0)) k=
 so (aK os sl n ks ts many bp) (.int a) fun s=>lf o fun b=>bif b then(eN .NotIn (.int s) (.list fs) fun c=>bif c then(bif aQ fs.length then k (wM (aK os sl n ks ts many bp) (fs++[.int s]) (Au (.int a) o (.int s)))else none)else k (wM (aK os sl n ks ts many bp) fs (Au (.int a) o (.int s))))else k (wM (aK os sl n ks ts many bp) fs (Au (.int a) o (.int s))):=by kernel_rfl
theorem Up(T:MV)(fs:List MV)(a o s:MV)(k:St→aH):bF 58 (zo P lf so) ((aL (KK P) 616).drop 2) (wM T fs (Au a o s)) k=some (.list fs,none):=by kernel_rfl
end
noncomputable abbrev D8(sm:U1 MV)(ls:U1 (List MV))(se:U4 (List MV))(so:U2 Int)(cn:U1 Int):Cx:=bx [(S "slot_masks",s1 mX sm),(S "leaking_subs",s1 f9 ls),(S "settle",AD se)] [((462,S "sub_of"),s2 ed so),((462,S "count"),s1 ed cn)]
noncomputable def vD(P:Params)(sm:U1 MV)(ls:U1 (List MV))(se:U4 (List MV))(so:U2 Int)(cn:U1 Int):Cx:={ D8 sm ls se so cn with sc:=dF (KK P) 621,own:=false }
noncomputable def RI(P:Params):Option Expr:=w6 (bS P) 0
noncomputable def RM(P:Params):Option Expr:=w6 (bS P) 2
noncomputable def Rz(P:Params):Option Expr:=oC (eS P) (fun Y as Y=>as[1]?) none
section
variable(P:Params)(sm:U1 MV)(ls:U1 (List MV))(se:U4 (List MV))(so:U2 Int)(cn:U1 Int)(os sl:List MV)(n:Nat)(ks:List Int)(ts:List MV)(many:Int)(bp:List MV)
theorem Uk(k:St→aH):bF 60 (vD P sm ls se so cn) ((bS P).take 3) [(.v (S "program"),.aw (aK os sl n ks ts many bp))] k=
 bif aQ os.length then dS 57 (vD P sm ls se so cn) (S "order") (RI P) os [] [] fun us=>ls (aK os sl n ks ts many bp) fun l=>cn (aK os sl n ks ts many bp) fun N=>bif eu N then bif aQ (hJ N).length then
  dS 55 (vD P sm ls se so cn) (S "at") (RM P) (hJ N) [(.v (S "program"),.aw (aK os sl n ks ts many bp)),(.v (S "leaking"),.aw (.list l))] [] fun vs=>k [(.v (S "program"),.aw (aK os sl n ks ts many bp)),(.v (S "pairs"),.own (.list us)),(.v (S "leaking"),.aw (.list l)),(.v (S "open_ones"),.own (.list vs))]else none else none else none:=by kernel_rfl
theorem Un(t:MV)(k:KT):ev 57 { vD P sm ls se so cn with sc:=tH (RI P)} (fL (gu (RI P))) [(.v (S "order"),.aw t)] k=sm t fun r=>k false r [(.v (S "order"),.aw t)]:=by kernel_rfl
theorem Uj(l:List MV)(i:Int)(k:KT):ev 55 { vD P sm ls se so cn with sc:=tH (RM P)} (fL (gu (RM P))) [(.v (S "program"),.aw (aK os sl n ks ts many bp)),(.v (S "leaking"),.aw (.list l)),(.v (S "at"),.aw (.int i))] k=
 so (aK os sl n ks ts many bp) (.int i) fun s=>eN .In (.int s) (.list l) fun b=>k false (.bool b) [(.v (S "program"),.aw (aK os sl n ks ts many bp)),(.v (S "leaking"),.aw (.list l)),(.v (S "at"),.aw (.int i))]:=by kernel_rfl
noncomputable def gU(ol pl:List MV)(a mk:Int):aH:=ea (.list ol) (.int a) fun v=>match iW v with
 |some b=>bif b then some (.int 18446744073709551615,none)else gT pl a mk
 |none=>none
theorem Ul(ol pl:List MV)(a mk:Int):I5 20 (TE (Wg P)) (W7 P) (d6 fg [S "at",S "mask"] [] [.int a,.int mk] [(.v (S "open_ones"),.aw (.list ol)),(.v (S "pairs"),.aw (.list pl))]) (fun Y t st=>some (t,ci st))=gU ol pl a mk:=by kernel_rfl
theorem Um(pl lk ol:List MV)(g:Int→Int→Option Int):
 ev 60 (vD P sm ls se so cn) (eS P) ([(.v (S "program"),.aw (aK os sl n ks ts many bp)),(.v (S "pairs"),.aw (.list pl)),(.v (S "leaking"),.aw (.list lk)),(.v (S "open_ones"),.aw (.list ol)),(.v Wq,.aw (.fn g))]) (fun Y t Y=>some (t,none))=
 bif aQ os.length then dS 58 (vD P sm ls se so cn) (S "order") (Rz P) os [] [] fun us=>se (aK os sl n ks ts many bp) (.list us) (.int 0) (.fn g) fun r=>some (.list r,none)else none:=by kernel_rfl
theorem Ui(t:MV)(k:KT):ev 58 { vD P sm ls se so cn with sc:=tH (Rz P)} (fL (gu (Rz P))) [(.v (S "order"),.aw t)] k=k false (.int 0) [(.v (S "order"),.aw t)]:=by kernel_rfl
end
theorem CG{B:St→(St→aH)→aH}{x y:Str}(I:Nat→St→Prop): ∀{ts:List MV}{j:Nat}{st:St},
 (∀i t st,ts[i]? =some t→I (j+i) st→(dK (st.get (.v x))&&dK ((st.put (.v x) (.aw (.int ((j+i:Nat):Int)))).get (.v y)))=true∧ ∃bB,I (j+i+1) bB∧ ∀k,B ((st.put (.v x) (.aw (.int ((j+i:Nat):Int)))).put (.v y) (.aw t)) k=k bB)→I j st→
 ∃bB,I (j+ts.length) bB∧ ∀K,rQ B x y ts j st K=K bB:=by
 intro l_
 induction l_ with
 |nil=>intro j st _ h;exact⟨st,h,fun Y=>rfl⟩
 |cons t ts ih=>
  intro j st hs h
  obtain⟨c,qk,h1,e1⟩:=hs 0 t st rfl h
  obtain⟨vd,h2,e2⟩:=ih (j:=j+1) (st:=qk) (fun i t st a b=>by
   have:=hs (i+1) t st a
   rw[show j+(i+1)=j+1+i by lia]at this
   exact this b) h1
  refine⟨vd,by rw[bw,show j+(ts.length+1)=j+1+ts.length by lia];exact h2,fun K=>?_⟩
  refine(?_:(bif dK (st.get (.v x))&&dK ((st.put (.v x) (.aw (.int ((j:Nat):Int)))).get (.v y))then B ((st.put (.v x) (.aw (.int ((j:Nat):Int)))).put (.v y) (.aw t)) fun st=>rQ B x y ts (j+1) st K else none)=_)
  refine ae (show(dK (st.get (.v x))&&dK ((st.put (.v x) (.aw (.int ((j:Nat):Int)))).get (.v y)))=true from c) ((ao ..).trans ?_)
  refine(e1 _).trans (e2 K)
section
variable{P:Params}{os:List Od}{n0:Nat}
noncomputable def ox(os:List Od)(i:Nat):Bool:=match os[i]? with
 |some o=>o.lk
 |none=>false
noncomputable def lE(os:List Od)(n0:Nat):Nat→List Int
 |0=>[]
 |j+1=>if(ox os j&& !decide ((dH os n0 j:Int)∈lE os n0 j))=true then lE os n0 j++[(dH os n0 j:Int)]else lE os n0 j
theorem H8: ∀j,(lE os n0 j).length≤j:=by
 intro l_
 induction l_ with
 |zero=>exact bn _
 |succ j ih=>
  have:=ih
  unfold lE
  split
  .refine ae b0 ?_;simp only[bw,List.length_nil];exact Nat.lt_succ_of_le ‹_›
  .exact Nat.le_succ_of_le ‹_›
theorem Q4{p:Nat→Prop}{j:Nat}:(∃i,i<j+1∧p i)↔(∃i,i<j∧p i)∨p j:=
 ⟨fun⟨i,a,b⟩=>(Nat.lt_succ_iff_lt_or_eq.mp a).elim (fun q=> .inl ⟨i,q,b⟩) fun q=> .inr (q▸b),fun h=>h.elim (fun⟨i,a,b⟩=>⟨i,Nat.lt_succ_of_lt a,b⟩) fun q=>⟨j,Nat.lt_succ_self j,q⟩⟩
theorem H7: ∀(j:Nat)(s:Int),s∈lE os n0 j↔ ∃i,i<j∧ox os i=true∧s=(dH os n0 i:Int):=by
 intro j
 induction j with
 |zero=>exact fun s=>⟨nofun,fun⟨i,h,_⟩=>absurd h (Nat.not_lt_zero i)⟩
 |succ j ih=>
  intro s
  refine Iff.trans ?_ Q4.symm
  rw[←ih s]
  rw[show lE os n0 (j+1)=if(ox os j&& !decide ((dH os n0 j:Int)∈lE os n0 j))=true then lE os n0 j++[(dH os n0 j:Int)]else lE os n0 j from rfl]
  by_cases c:(ox os j&& !decide ((dH os n0 j:Int)∈lE os n0 j))=true
  .rw[aF c,List.mem_append,cj]
   exact or_congr Iff.rfl ⟨fun e=>⟨(au.mp c).1,e⟩,And.right⟩
  .rw[az c]
   refine⟨.inl,fun h=>h.elim id fun q=>?_⟩
   by_cases z:(dH os n0 j:Int)∈lE os n0 j
   .exact q.2▸z
   .exact absurd (by rw[q.1,cz z];rfl) c
noncomputable abbrev Kz(P:Params):Cx:=bx [(S "leaks_frame",s1 gb (ur P))] [((462,S "sub_of"),s2 ed (ri P))]
noncomputable def J8(P:Params):U1 (List MV):=K1 f9 P (Kz P) 616
theorem U3(hD:Good D):aV D 26 (S "leaking_subs") (s1 f9 (J8 D.w.params)):=
 f1 hD f9 (by decide) (dV hD (ay (L4 hD) (by decide) bz) (dM (DD hD) (by decide) cX)) (by kernel_rfl) (by kernel_rfl) (by kernel_rfl) (by kernel_rfl)
noncomputable abbrev wL(l:List Int):List MV:=l.map MV.int
theorem LX(X:PG P os n0):cB P 60 (Kz P) 616 [] false [ax os n0]=some (.list (wL (lE os n0 os.length)),none):=by
 have lim:=X.lim
 have pos:=X.pos
 have le:=X.le
 have hl:(cW os).length=os.length:=ai ..
 obtain⟨bB,h1,h2⟩:=CG (B:=bF 57 (zo P (ur P) (ri P)) (RS P)) (x:=S "at") (y:=S "order") (fun j st=>(j=0∧st=wM (ax os n0) [] [])∨ ∃a o s,st=wM (ax os n0) (wL (lE os n0 j)) (Au a o s))
  (ts:=cW os) (j:=0) (st:=wM (ax os n0) [] []) (fun j t st ht hI=>by
    rw[aT]at hI ⊢
    rw[bA]at ht
    induction ho:os[j]? using ab with
    |none=>rw[ho]at ht;exact nn ht
    |some o=>
     rw[ho]at ht
     have ht:t=o.t:=by obtain rfl:=b8 ht;rfl
     subst ht
     have hj:=nN ho
     have Te:ox os j=o.lk:=by unfold ox;exact ae ho rfl
     have un:lE os n0 (j+1)=if(o.lk&& !decide ((dH os n0 j:Int)∈lE os n0 j))=true then lE os n0 j++[(dH os n0 j:Int)]else lE os n0 j:=by exact ft Te rfl
     have ll:=H8 (os:=os) (n0:=n0) j
     have go: ∀k:St→aH,(ri P (ax os n0) (.int (j:Int)) fun s=>ur P o.t fun b=>bif b then(eN .NotIn (.int s) (.list (wL (lE os n0 j))) fun c=>bif c then(bif aQ (wL (lE os n0 j)).length then k (wM (ax os n0) (wL (lE os n0 j)++[.int s]) (Au (.int (j:Int)) o.t (.int s)))else none)else k (wM (ax os n0) (wL (lE os n0 j)) (Au (.int (j:Int)) o.t (.int s))))else k (wM (ax os n0) (wL (lE os n0 j)) (Au (.int (j:Int)) o.t (.int s))))=k (wM (ax os n0) (wL (lE os n0 (j+1))) (Au (.int (j:Int)) o.t (.int (dH os n0 j:Nat)))):=fun k=>by
      refine(rJ ..).trans (((X.ok j o ho).J4 ..).trans (ae un ?_))
      induction o.lk using ag with
      |false=>exact(bH ..).trans (ae (az (by simp)) rfl)
      |true=>
       refine(ao ..).trans ?_
       refine xN.trans (ae (ai ..) (ae (bo (by lia)) ?_))
       by_cases q:(dH os n0 j:Int)∈lE os n0 j
       .exact ae (az (by simp[q])) (ae (aW q) rfl)
       .refine ae (aF (by simp[q])) (ae (cz q) ?_)
        exact ae (show wL (lE os n0 j++[(dH os n0 j:Int)])=wL (lE os n0 j)++[.int (dH os n0 j:Nat)]from List.map_append ..) rfl
     clear ho hj Te un ll;rcases hI with⟨rfl,rfl⟩|⟨a,o',s,rfl⟩
     .exact⟨rfl,_,.inr ⟨_,_,_,rfl⟩,fun k=>(Ql P _ _ _ _ _ _ _ _ _ (ax os n0) _ _ _ k).trans (go k)⟩
     .exact⟨rfl,_,.inr ⟨_,_,_,rfl⟩,fun k=>(Qk P _ _ _ _ _ _ _ _ _ (ax os n0) _ _ _ _ k).trans (go k)⟩)
  (.inl ⟨rfl,rfl⟩)
 rw[aT,hl]at h1
 obtain⟨a,o,s,rfl⟩: ∃a o s,bB=wM (ax os n0) (wL (lE os n0 os.length)) (Au a o s):=by
  rcases h1 with⟨h,_⟩|h
  .lia
  .exact h
 refine fh (st:=[(.v (S "program"),.aw (ax os n0))]) (by kernel_rfl) fun k=>?_
 refine(Uo P (ur P) (ri P) _ _ _ _ _ _ _ k).trans ?_
 refine ae hl (ae (bo (by exact af ‹_› (aa rfl))) ((ao ..).trans ?_))
 refine(h2 _).trans ?_
 exact Up P _ _ _ _ _ _ _ _
theorem Qj(X:PG P os n0): ∀k,J8 P (ax os n0) k=k (wL (lE os n0 os.length)):=fun k=>cZ (T:=f9) (x:=wL (lE os n0 os.length)) (o:=cB P 60 (Kz P) 616 [] false [ax os n0]) (LX X) k
noncomputable def rC(os:List Od)(n0 i:Nat):Bool:=decide ((dH os n0 i:Int)∈lE os n0 os.length)
theorem sn:rC os n0 i=true↔ ∃j,j<os.length∧ox os j=true∧dH os n0 i=dH os n0 j:=by
 refine ae a9 ((H7 ..).trans ?_)
 constructor
 .rintro⟨j,a,b,c⟩;exact⟨j,a,b,by exact Int.natCast_inj.mp ‹_›⟩
 .rintro⟨j,a,b,c⟩;exact⟨j,a,b,by lia⟩
noncomputable def zc(os:List Od):List MV:=os.map fun o=>Dm (dA 8 (Av o.rd)) (dA 8 (wG o.wr))
noncomputable def zb(os:List Od)(i:Nat):Nat:=match os[i]? with
 |some o=>dA 8 (Av o.rd)
 |none=>0
noncomputable def y9(os:List Od)(i:Nat):Nat:=match os[i]? with
 |some o=>dA 8 (wG o.wr)
 |none=>0
theorem E5{o:Od}(h:os[i]? =some o):(zc os)[i]? =some (Dm (dA 8 (Av o.rd)) (dA 8 (wG o.wr))):=by refine(bA).trans (ae h ?_);rfl
noncomputable abbrev Dq(os:List Od)(n0:Nat):List MV:=(List.range os.length).map fun i=>MV.bool (rC os n0 i)
noncomputable abbrev D9(P:Params):Cx:=vD P (rK P) (J8 P) (qY P) (ri P) (mZ P)
theorem FE(X:PG P os n0){k:List MV→aH}: ∀(l:List Od)(_: ∀o∈l,o∈os){st:St}(_:st=[]∨ ∃old,st=[(.v (S "order"),.aw old)])(acc:List MV),dS 57 (D9 P) (S "order") (RI P) (l.map Od.t) st acc k=k (acc++zc l):=by
 intro l_
 induction l_ with
 |nil=>intro _ st hs acc;refine ae dw ((eO (by kernel_rfl)).trans ?_);refine(?_:_=k (acc++[]));exact ae (bG ..) rfl
 |cons o l ih=>
  intro h st hs acc
  obtain⟨i,hi⟩:=List.mem_iff_getElem?.mp (h o (.head _))
  refine ae bv ((fA (by kernel_rfl) (by kernel_rfl)).trans (ae (nL hs) ?_))
  refine(Un P _ _ _ _ _ _ _).trans ?_
  exact((X.ok i o hi).slots ..).trans (ae (ih (fun o ho=>h o (.tail _ ho)) (.inr ⟨_,rfl⟩) ..) (ae (bE ..) rfl))
theorem FD{k:List MV→aH}: ∀(l:List MV){st:St}(_:st=[]∨ ∃old,st=[(.v (S "order"),.aw old)])(acc:List MV),dS 58 (D9 P) (S "order") (Rz P) l st acc k=k (acc++List.replicate l.length (.int 0)):=by
 intro l_
 induction l_ with
 |nil=>intro st hs acc;refine(eO (by kernel_rfl)).trans ?_;refine(?_:_=k (acc++[]));exact ae (bG ..) rfl
 |cons t l ih=>
  intro st hs acc
  refine(fA (by kernel_rfl) (by kernel_rfl)).trans (ae (nL hs) ?_)
  refine(Ui P _ _ _ _ _ _ _).trans ?_
  exact(ih (.inr ⟨_,rfl⟩) ..).trans (ae (bE ..) rfl)
theorem FF{k:List MV→aH}: ∀(l:List Nat){st:St}(_:st=[(.v (S "program"),.aw (ax os n0)),(.v (S "leaking"),.aw (.list (wL (lE os n0 os.length))))]∨ ∃old,st=[(.v (S "program"),.aw (ax os n0)),(.v (S "leaking"),.aw (.list (wL (lE os n0 os.length)))),(.v (S "at"),.aw old)])(acc:List MV),
 dS 55 (D9 P) (S "at") (RM P) (nl l) st acc k=k (acc++l.map fun i=>MV.bool (rC os n0 i)):=by
 intro l_
 induction l_ with
 |nil=>intro st hs acc;refine ae (show nl []=[]from rfl) ((eO (by kernel_rfl)).trans ?_);refine(?_:_=k (acc++[]));exact ae (bG ..) rfl
 |cons i l ih=>
  intro st hs acc
  refine ae (show nl (i::l)= .int (i:Int)::nl l from rfl) ((fA (by kernel_rfl) (by kernel_rfl)).trans ?_)
  have e:st.put (.v (S "at")) (.aw (.int (i:Int)))=[(.v (S "program"),.aw (ax os n0)),(.v (S "leaking"),.aw (.list (wL (lE os n0 os.length)))),(.v (S "at"),.aw (.int (i:Int)))]:=by
   rcases hs with rfl|⟨old,rfl⟩<;>rfl
  refine ae e ?_
  refine(Uj P _ _ _ _ _ _ _ _ _ _ _ _ _ _ _).trans ?_
  refine(rJ _).trans ?_
  exact JD.trans ((ih (.inr ⟨_,rfl⟩) ..).trans (ae (bE ..) rfl))
noncomputable def Ng(os:List Od)(n0 i m:Nat):Nat:=if rC os n0 i then Kp else kO m (y9 os i) ||| zb os i
noncomputable def gS(P:Params)(os:List Od)(n0:Nat)(a m:Int):Option Int:=DW (gU (Dq os n0) (zc os) a m)
theorem QR(X:PG P os n0)(i m:Nat)(h:i<os.length):gS P os n0 (i:Int) (m:Int)=some (Ng os n0 i m:Nat):=by
 obtain⟨o,ho⟩:=gp h
 have lim:=X.lim
 have e:(Dq os n0)[i]? =some (.bool (rC os n0 i)):=by
  refine(bA).trans (ae (aq (by rw[aG];exact h)) (ae (List.getElem_range ..) ?_));rfl
 unfold gS gU
 refine ae (dP (by rw[ai,aG];exact af ‹_› (aa rfl)) e) ?_
 refine ae (JM (by unfold zc;rw[ai];exact af ‹_› (aa rfl)) (E5 ho)) ?_
 unfold Ng zb y9
 refine ae ho ?_
 induction rC os n0 i using ag<;>rfl
theorem AV:dx os (Ng os n0)=f5 (jn os) (zb os) (y9 os) (rC os n0):=by
 funext i f;rfl
theorem H5:iter (dx os (Ng os n0)) os.length os.length=iter (dx os (Ng os n0)) os.length (os.length+1):=by
 refine ae AV ?_
 exact mN oO _ (bn _)
end
noncomputable def lH(os:List Od)(n0:Nat):List Nat:=iter (f5 (jn os) (zb os) (y9 os) (rC os n0)) os.length os.length
theorem FK(hD:Good D){os:List Od}{n0:Nat}(X:PG D.w.params os n0)
 {A:Around} {F:FH} {s:Shared} {vp:Value} {Q E:Value→Shared→Prop} (hA:ey A 29) (hb:dG D.h₀.get? F) (qs:dG F s.heap.get?) (GY:F 618=none) (hP:s.heap.get? 618=some (tabObj #[])) (C:CodeHd s.heap 620 618) (hB:s.heap.BuiltinsAt D.mg 618) (Kf:mainGlobals≠618)
 (hv:D.VR F (ax os n0) vp)
 (hq: ∀F' h' tk v,dG F F'→dG F' h'.get?→(∀b o,F' b=some o→F b=some o∨s.heap.get? b=none)→(∀b o,b≠618→s.heap.get? b=some o→h'.get? b=some o)→(∃ps,h'.get? 618=some (tabObj ps))→D.VR F' (.list (nl (lH os n0))) v→Q v { s with heap:=h',toks:=tk }):
 wpAny (model D.prog D.w) A (call (.ref 621) [vp]) Q E s:=by
 have lim:=X.lim
 have tc:eE D 28 (D8 (rK D.w.params) (J8 D.w.params) (qY D.w.params) (ri D.w.params) (mZ D.w.params)):=dV hD (ay (L3 hD) (by decide) (ay (U3 hD) (by decide) (ay (JQ hD) (by decide) bz))) (dM (DD hD) (by decide) (dM (zm hD) (by decide) cX))
 have hl:(cW os).length=os.length:=ai ..
 have hz:aQ (cW os).length=true:=bo (by lia)
 refine uQ hD (n:=28) (by decide) (XT D.w.params) (J3:=D8 (rK D.w.params) (J8 D.w.params) (qY D.w.params) (ri D.w.params) (mZ D.w.params)) (tc.Sv _ _) (N1 hD _) (T:=ax os n0)
  (qk:=[(.v (S "program"),.aw (ax os n0)),(.v (S "pairs"),.own (.list (zc os))),(.v (S "leaking"),.aw (.list (wL (lE os n0 os.length)))),(.v (S "open_ones"),.own (.list (Dq os n0)))])
  (vd:=[(.v (S "program"),.aw (ax os n0)),(.v (S "pairs"),.aw (.list (zc os))),(.v (S "leaking"),.aw (.list (wL (lE os n0 os.length)))),(.v (S "open_ones"),.aw (.list (Dq os n0)))]) (ks:=[.v (S "pairs"),.v (S "open_ones")])
  (fun k=>?_) (by kernel_rfl) (fun k sl h=>?_) (b7:=[(.v (S "open_ones"),.aw (.list (Dq os n0))),(.v (S "pairs"),.aw (.list (zc os)))]) (fun p hp=>?_) (by refine(?_:([fG.v (S "open_ones"),fG.v (S "pairs")]).Nodup);decide) rfl (g:=gS D.w.params os n0) (m:=20) (fun x y r h=>(Ul D.w.params _ _ _ _).trans (xR h)) (res:= .list (nl (lH os n0))) (m2:=60) ?_ hA hb qs GY hP C hB Kf hv hq
 .refine(Uk D.w.params (rK D.w.params) (J8 D.w.params) (qY D.w.params) (ri D.w.params) (mZ D.w.params) _ _ _ _ _ _ _ k).trans ?_
  refine ae hz ((ao ..).trans ((FE X os (fun o h=>h) (.inl rfl) ..).trans (ae (dd ..) ?_)))
  refine(Qj X _).trans ?_
  refine(lS _).trans ?_
  exact ae (et (by exact Int.natCast_nonneg _) (by lia)) ((ao ..).trans (ae mM (ae (ai ..) (ae aG (ae (bo (by exact af ‹_› (aa rfl))) ((ao ..).trans ((FF _ (.inl rfl) ..).trans rfl)))))))
 .rcases aA.mp (d9 h)with q|q
  .obtain⟨rfl,rfl⟩:=cV q;exact⟨_,rfl⟩
  .rcases aA.mp q with q|q
   .obtain⟨rfl,rfl⟩:=cV q;exact⟨_,rfl⟩
   .rcases aA.mp q with q|q
    .obtain⟨rfl,rfl⟩:=cV q;exact⟨_,rfl⟩
    .rcases aA.mp q with q|q
     .obtain⟨rfl,rfl⟩:=cV q;exact⟨_,rfl⟩
     .exact jZ q
 .rcases aA.mp hp with rfl|hp
  .exact⟨S "open_ones",rfl,by kernel_rfl,by kernel_rfl⟩
  .refine ae (cj.mp hp) ?_
   exact⟨S "pairs",rfl,by kernel_rfl,by kernel_rfl⟩
 .refine(Um D.w.params (rK D.w.params) (J8 D.w.params) (qY D.w.params) (ri D.w.params) (mZ D.w.params) _ _ _ _ _ _ _ _ _ _ (gS D.w.params os n0)).trans ?_
  refine ae hz ((ao ..).trans ((FD _ (.inl rfl) ..).trans (ae (dd ..) (ae hl (ae xw ?_)))))
  refine(Ee X (g:=gS D.w.params os n0) (ah:=Ng os n0) (fun i m h=>QR X i m h) H5 _).trans ?_
  exact ae AV rfl
noncomputable def lM(P:Params):Cx:={ bx [] []with sc:=dF (KK P) 80,own:=false }
noncomputable def NR(P:Params):Expr:=RD ((aL (KK P) 80).drop 1)
noncomputable def NT(P:Params):List Stmt:=RE ((aL (KK P) 80).drop 1)
noncomputable abbrev b2(w c:Int):St:=[(.v (S "worth"),.aw (.int w)),(.v (S "count"),.aw (.int c))]
noncomputable abbrev b3(w c s:Int):St:=[(.v (S "worth"),.aw (.int w)),(.v (S "count"),.aw (.int c)),(.v (S "step"),.aw (.int s))]
theorem VF(P:Params)(w:Int)(k:St→aH):bF 60 (lM P) ((aL (KK P) 80).take 1) [(.v (S "worth"),.aw (.int w))] k=k (b2 w 0):=by kernel_rfl
theorem Rn(P:Params)(w c:Int)(k:Bool→St→aH):fH (ev 57 (lM P)) (lM P) 57 (NR P) (b2 w c) k=k (decide (w>0)) (b2 w c):=by kernel_rfl
theorem Rm(P:Params)(w c s:Int)(k:Bool→St→aH):fH (ev 57 (lM P)) (lM P) 57 (NR P) (b3 w c s) k=k (decide (w>0)) (b3 w c s):=by kernel_rfl
theorem Rr(P:Params)(w c:Int)(k:St→aH):bF 57 (lM P) (NT P) (b2 w c) k=bif decide (w>255)then k (b3 (w.fdiv (2 ^ Int.toNat 8)) (c+8) 8)else k (b3 (w.fdiv (2 ^ Int.toNat 1)) (c+1) 1):=by kernel_rfl
theorem Rq(P:Params)(w c s:Int)(k:St→aH):bF 57 (lM P) (NT P) (b3 w c s) k=bif decide (w>255)then k (b3 (w.fdiv (2 ^ Int.toNat 8)) (c+8) 8)else k (b3 (w.fdiv (2 ^ Int.toNat 1)) (c+1) 1):=by kernel_rfl
theorem Rp(P:Params)(w c:Int)(k:St→aH):bF 58 (lM P) ((aL (KK P) 80).drop 2) (b2 w c) k=some (.int c,none):=by kernel_rfl
theorem Ro(P:Params)(w c s:Int)(k:St→aH):bF 58 (lM P) ((aL (KK P) 80).drop 2) (b3 w c s) k=some (.int c,none):=by kernel_rfl
noncomputable def Su(w c:Int)(st:St):Prop:=st=b2 w c∨ ∃s,st=b3 w c s
theorem zK{P:Params}{w c:Int}(h:Su w c st)(k:Bool→St→aH):fH (ev 57 (lM P)) (lM P) 57 (NR P) st k=k (decide (w>0)) st:=by
 rcases h with rfl|⟨s,rfl⟩
 .exact Rn P w c k
 .exact Rm P w c s k
theorem ES{P:Params}{w c:Nat}(h:Su w c st)(k:St→aH):bF 57 (lM P) (NT P) st k=bif decide (255<w)then k (b3 ((w / 256:Nat):Int) ((c+8:Nat):Int) 8)else k (b3 ((w / 2:Nat):Int) ((c+1:Nat):Int) 1):=by
 have e8:(w:Int).fdiv (2 ^ Int.toNat 8)=((w / 256:Nat):Int):=by
  refine(?_:(w:Int).fdiv 256=_)
  exact(Int.fdiv_eq_ediv_of_nonneg _ (by decide)).trans rfl
 have e1:(w:Int).fdiv (2 ^ Int.toNat 1)=((w / 2:Nat):Int):=by
  refine(?_:(w:Int).fdiv 2=_)
  exact(Int.fdiv_eq_ediv_of_nonneg _ (by decide)).trans rfl
 have d:decide ((w:Int)>255)=decide (255<w):=by
  by_cases q:255<w
  .exact ae (aW q) ((aW (by exact c7.mpr ‹_›)))
  .exact ae (cz q) ((cz (by lia)))
 rcases h with rfl|⟨s,rfl⟩
 .exact(Rr ..).trans (ae e8 (ae e1 (ae d rfl)))
 .exact(Rq ..).trans (ae e8 (ae e1 (ae d rfl)))
theorem IC{P:Params}: ∀(m w c g9:Nat){st:St},w<2 ^ m→m<g9→Su w c st→ ∃n bB,n≤m∧w<2 ^ n∧Su 0 ((c+n:Nat):Int) bB∧ ∀K,j4 (fH (ev 57 (lM P)) (lM P) 57 (NR P)) (bF 57 (lM P) (NT P)) g9 st K=K bB:=by
 intro m
 induction m using Nat.strongRecOn with
 |_ m ih=>
  intro w c g9 st hw hf gE
  obtain⟨f,rfl⟩: ∃f,g9=f+1:=⟨g9-1,Nl (Nat.zero_lt_of_lt hf)⟩
  by_cases h0:w=0
  .clear hw;subst h0
   refine⟨0,st,Nat.zero_le _,Nat.one_pos,gE,fun K=>?_⟩
   rw[dW,zK gE];rfl
  .have hp:decide (((w:Nat):Int)>0)=true:=aW (c7.mpr (Nat.pos_of_ne_zero h0))
   by_cases hb:255<w
   .have hm:9≤m:=by
     by_cases q:9≤m
     .exact q
     .have:=Nat.pow_le_pow_right (n:=2) (by decide) (show m≤8 by exact cG ‹_›)
      exact absurd (bT hw this) (Nat.not_lt.mpr hb)
    have h8:w / 256<2 ^ (m-8):=by
     have:(2:Nat) ^ m=2 ^ (m-8)*256:=by refine ae (show(256:Nat)=2 ^ 8 from rfl) (ft (Nat.pow_add ..) ?_);congr 1;exact Xr (ca hm)
     exact Nat.div_lt_of_lt_mul (by exact ae (Nat.mul_comm ..) (this▸hw))
    obtain⟨n,bB,n1,n2,n3,n4⟩:=ih (m-8) (SJ (ca hm) (by decide)) (w / 256) (c+8) f (st:=b3 ((w / 256:Nat):Int) ((c+8:Nat):Int) 8) h8 (V4 (ca hm) hf (by decide)) (.inr ⟨_,rfl⟩)
    refine⟨n+8,bB,V3 (ca hm) n1,?_,by rw[show c+(n+8)=c+8+n from V2];exact n3,fun K=>?_⟩
    .refine ae (Nat.pow_add ..) ?_
     have:=Nat.lt_mul_of_div_lt n2 (by decide)
     refine(?_:w<2 ^ n*256)
     assumption
    .rw[dW,zK gE,hp,ao,ES gE,aW hb,ao,n4]
   .have hm:1≤m:=by
     by_cases q:1≤m
     .exact q
     .have:m=0:=Nat.lt_one_iff.mp (Nat.not_le.mp q)
      clear ih hf q;subst this
      exact absurd (Nat.lt_one_iff.mp hw) h0
    have h1:w / 2<2 ^ (m-1):=by
     have:(2:Nat) ^ m=2 ^ (m-1)*2:=by refine ft (Nat.pow_succ ..) ?_;congr 1;exact Nl ‹_›
     exact Nat.div_lt_of_lt_mul (by exact ae (Nat.mul_comm ..) (this▸hw))
    obtain⟨n,bB,n1,n2,n3,n4⟩:=ih (m-1) (by exact SJ ‹_› (by decide)) (w / 2) (c+1) f (st:=b3 ((w / 2:Nat):Int) ((c+1:Nat):Int) 1) h1 (by exact V4 ‹_› ‹_› (by decide)) (.inr ⟨_,rfl⟩)
    refine⟨n+1,bB,by exact V3 ‹_› ‹_›,?_,by rw[show c+(n+1)=c+1+n from V2];exact n3,fun K=>?_⟩
    .refine ae (Nat.pow_succ ..) ?_
     have:=Nat.lt_mul_of_div_lt n2 (by decide)
     assumption
    .exact dW.trans ((zK gE ..).trans (ae hp ((ao ..).trans ((ES gE ..).trans (ae (cz hb) ((bH ..).trans ((n4 ..))))))))
theorem MK{P:Params}{w:Nat}(h:w<2 ^ 64): ∃n:Nat,n≤64∧w<2 ^ n∧cB P 60 (bx [] []) 80 [] false [.int (w:Int)]=some (.int (n:Int),none):=by
 obtain⟨n,bB,n1,n2,n3,n4⟩:=IC (P:=P) 64 w 0 3000 (st:=b2 w 0) h (by decide) (.inl rfl)
 refine⟨n,n1,n2,fh (st:=[(.v (S "worth"),.aw (.int (w:Int)))]) (by kernel_rfl) fun k=>?_⟩
 refine(?_:bF (58+1+1) (lM P) (aL (KK P) 80) _ k=_)
 refine(eX (m:=58) 1).trans ?_
 refine(VF P _ _).trans ?_
 refine(?_:bF (57+2) (lM P) ((aL (KK P) 80).drop 1) (b2 w 0) k=_)
 refine(mR (t:=NR P) (b:=NT P) (r:=(aL (KK P) 80).drop 2) (by kernel_rfl)).trans ?_
 refine(n4 _).trans ?_
 rw[aT]at n3
 clear n4;rcases n3 with rfl|⟨s,rfl⟩
 .exact Rp P _ _ _
 .exact Ro P _ _ _ _
noncomputable def NS(P:Params):U1 Int:=K1 ed P (bx [] []) 80
theorem UV(hD:Good D):aV D 21 (S "bit_count") (s1 ed (NS D.w.params)):=(yT hD).sub rfl rfl fun Y Y Y h=>gJ (T:=ed) (by kernel_rfl) h
noncomputable def qZ(P:Params)(bc:U1 Int):Cx:={ bx [(S "bit_count",s1 ed bc)] []with sc:=dF (KK P) 555,own:=false }
noncomputable def Dg(P:Params):Option Expr:=vy (aL (KK P) 555) 0
theorem T5(P:Params)(bc:U1 Int)(w:Int)(k:St→aH):bF 60 (qZ P bc) (aL (KK P) 555) [(.v (S "mask"),.aw (.int w))] k=
 bc (.int w) fun N=>bif eu N then bif aQ (hJ N).length then dS 57 (qZ P bc) (S "number") (Dg P) (hJ N) [(.v (S "mask"),.aw (.int w))] [] fun us=>some (.list us,none)else none else none:=by kernel_rfl
noncomputable def Nv(w i:Int)(y n:aH):aH:=bif decide (0≤i)then(bif Builtin.bitAnd (w.fdiv (2 ^ i.toNat)) 1==1 then y else n)else none
theorem T7(P:Params)(bc:U1 Int)(w i:Int)(us acc:List MV)(k:List MV→aH):dS 57 (qZ P bc) (S "number") (Dg P) (.int i::us) [(.v (S "mask"),.aw (.int w))] acc k=
 Nv w i (dS 57 (qZ P bc) (S "number") (Dg P) us [(.v (S "mask"),.aw (.int w)),(.v (S "number"),.aw (.int i))] (acc++[.int i]) k) (dS 57 (qZ P bc) (S "number") (Dg P) us [(.v (S "mask"),.aw (.int w)),(.v (S "number"),.aw (.int i))] acc k):=by kernel_rfl
theorem T6(P:Params)(bc:U1 Int)(w i:Int)(old:MV)(us acc:List MV)(k:List MV→aH):dS 57 (qZ P bc) (S "number") (Dg P) (.int i::us) [(.v (S "mask"),.aw (.int w)),(.v (S "number"),.aw old)] acc k=
 Nv w i (dS 57 (qZ P bc) (S "number") (Dg P) us [(.v (S "mask"),.aw (.int w)),(.v (S "number"),.aw (.int i))] (acc++[.int i]) k) (dS 57 (qZ P bc) (S "number") (Dg P) us [(.v (S "mask"),.aw (.int w)),(.v (S "number"),.aw (.int i))] acc k):=by kernel_rfl
theorem LS{w i:Nat}{y n:aH}:Nv (w:Int) (i:Int) y n=bif w.testBit i then y else n:=by
 delta Nv
 exact ae (aW (show(0:Int)≤(i:Int) by exact Int.natCast_nonneg _)) (ae (bJ ..) (ae (yq ..) rfl))
theorem HY{P:Params}{bc:U1 Int}{w:Nat}{k:List MV→aH}: ∀(l:List Nat){st:St}(_:st=[(.v (S "mask"),.aw (.int (w:Int)))]∨ ∃old,st=[(.v (S "mask"),.aw (.int (w:Int))),(.v (S "number"),.aw old)])(acc:List MV),
 dS 57 (qZ P bc) (S "number") (Dg P) (nl l) st acc k=k (acc++nl (l.filter w.testBit)):=by
 intro l_
 induction l_ with
 |nil=>intro st hs acc;rw[show nl []=[]from rfl,eO (by kernel_rfl),List.filter_nil];refine(?_:_=k (acc++[]));exact ae (bG ..) rfl
 |cons i l ih=>
  intro st hs acc
  have fin: ∀acc,dS 57 (qZ P bc) (S "number") (Dg P) (nl l) [(.v (S "mask"),.aw (.int (w:Int))),(.v (S "number"),.aw (.int (i:Int)))] acc k=k (acc++nl (l.filter w.testBit)):=fun acc=>ih (.inr ⟨_,rfl⟩) acc
  have go:Nv (w:Int) (i:Int) (dS 57 (qZ P bc) (S "number") (Dg P) (nl l) [(.v (S "mask"),.aw (.int (w:Int))),(.v (S "number"),.aw (.int (i:Int)))] (acc++[.int (i:Int)]) k) (dS 57 (qZ P bc) (S "number") (Dg P) (nl l) [(.v (S "mask"),.aw (.int (w:Int))),(.v (S "number"),.aw (.int (i:Int)))] acc k)=k (acc++nl ((i::l).filter w.testBit)):=by
   refine LS.trans (ae (fin ..) (ae (fin ..) (ae List.filter_cons ?_)))
   induction w.testBit i using ag with
   |true=>exact(ao ..).trans (ae (aF rfl) (ae (bE ..) rfl))
   |false=>exact(bH ..).trans (ae (az (fun h=>nomatch h)) rfl)
  rcases hs with rfl|⟨old,rfl⟩
  .exact(T7 P bc _ _ _ _ _).trans go
  .exact(T6 P bc _ _ _ _ _ _).trans go
noncomputable def Nw(P:Params):U1 (List MV):=K1 f9 P (bx [(S "bit_count",s1 ed (NS P))] []) 555
theorem U0(hD:Good D):aV D 22 (S "numbers_in") (s1 f9 (Nw D.w.params)):=
 f1 hD f9 (by decide) (dV hD (ay (UV hD) (by decide) bz) cX) (by kernel_rfl) (by kernel_rfl) (by kernel_rfl) (by kernel_rfl)
theorem PZ{P:Params}{w:Nat}(h:w<2 ^ 64): ∃n:Nat,n≤64∧w<2 ^ n∧ ∀k,Nw P (.int (w:Int)) k=k (nl ((List.range n).filter w.testBit)):=by
 obtain⟨n,n1,n2,n3⟩:=MK (P:=P) h
 refine⟨n,n1,n2,fun k=>cZ (T:=f9) (x:=nl ((List.range n).filter w.testBit)) (o:=cB P 60 (bx [(S "bit_count",s1 ed (NS P))] []) 555 [] false [.int (w:Int)]) ?_ k⟩
 refine fh (st:=[(.v (S "mask"),.aw (.int (w:Int)))]) (by kernel_rfl) fun k=>?_
 refine(T5 P (NS P) _ k).trans ?_
 rw[show ∀k,NS P (.int (w:Int)) k=k (n:Int)from fun k=>cZ (T:=ed) (x:=(n:Int)) (o:=cB P 60 (bx [] []) 80 [] false [.int (w:Int)]) n3 k,et (by exact Int.natCast_nonneg _) (by lia),ao,mM,ai,aG,bo (by exact af ‹_› (aa rfl)),ao,HY _ (.inl rfl)];rfl
noncomputable def wW(P:Params):Cx:={ bx [] []with sc:=dF (KK P) 550,own:=false }
noncomputable def RO(P:Params):List Stmt:=j1 (aL (KK P) 550) 1
noncomputable abbrev RP(us:List MV)(a:Int):St:=[(.v (S "numbers"),.aw (.list us)),(.v (S "mask"),.aw (.int a))]
noncomputable abbrev IW(us:List MV)(a:Int)(i:MV):St:=[(.v (S "numbers"),.aw (.list us)),(.v (S "mask"),.aw (.int a)),(.v (S "number"),.aw i)]
theorem Ub(P:Params)(us:List MV)(k:St→aH):bF 60 (wW P) (aL (KK P) 550) [(.v (S "numbers"),.aw (.list us))] k=
 bif aQ us.length then dN (bF 57 (wW P) (RO P)) (S "number") us (RP us 0) (fun st=>bF 58 (wW P) ((aL (KK P) 550).drop 2) st k)else none:=by kernel_rfl
theorem Uc(P:Params)(us:List MV)(a i:Int)(k:St→aH):bF 57 (wW P) (RO P) (IW us a (.int i)) k=bif qw 1 i then k (IW us (Builtin.bitOr a (1*2 ^ i.toNat)) (.int i))else none:=by kernel_rfl
theorem P8(P:Params)(us:List MV)(a:Int)(k:St→aH):bF 58 (wW P) ((aL (KK P) 550).drop 2) (RP us a) k=some (.int a,none):=by kernel_rfl
theorem P7(P:Params)(us:List MV)(a:Int)(i:MV)(k:St→aH):bF 58 (wW P) ((aL (KK P) 550).drop 2) (IW us a i) k=some (.int a,none):=by kernel_rfl
theorem H1{P:Params}{us:List MV}{K:St→aH}: ∀(l:List Nat)(_: ∀i∈l,i<64)(a:Nat){st:St}(_:st=RP us a∨ ∃i,st=IW us a i),(∀a i,K (IW us a i)=some (.int a,none))→(∀a,K (RP us a)=some (.int a,none))→
 dN (bF 57 (wW P) (RO P)) (S "number") (nl l) st K=some (.int ((l.foldl (fun a i=>a ||| 2 ^ i) a:Nat):Int),none):=by
 intro l_
 induction l_ with
 |nil=>
  intro _ a st hs h3 h2
  refine(?_:K st=_)
  rcases hs with rfl|⟨i,rfl⟩
  .exact h2 _
  .exact h3 _ _
 |cons i l ih=>
  intro hl a st hs h3 h2
  have hi:=hl i (.head _)
  have step: ∀k,bF 57 (wW P) (RO P) (IW us a (.int (i:Int))) k=k (IW us ((a ||| 2 ^ i:Nat):Int) (.int (i:Int))):=fun k=>by
   rw[Uc,show qw 1 (i:Int)=true by delta qw iI;simp only[aU,a9];lia,ao,bJ,show(1*2 ^ i:Int)=((2 ^ i:Nat):Int) by rw[Int.one_mul,Int.natCast_pow];rfl,qe]
  have ih:=ih (st:=IW us ((a ||| 2 ^ i:Nat):Int) (.int (i:Int))) (fun j hj=>hl j (.tail _ hj)) (a ||| 2 ^ i) (.inr ⟨_,rfl⟩) h3 h2
  rcases hs with rfl|⟨i0,rfl⟩
  .exact(step _).trans ih
  .exact(step _).trans ih
noncomputable def Nx(P:Params):U1 Int:=K1 ed P (bx [] []) 550
theorem UU(hD:Good D):aV D 21 (S "mask_of") (s1 ed (Nx D.w.params)):=(mO hD).sub rfl rfl fun Y Y Y h=>gJ (T:=ed) (by kernel_rfl) h
theorem P0{P:Params}{l:List Nat}(hl: ∀i∈l,i<64)(hz:l.length≤1000): ∀k,Nx P (.list (nl l)) k=k ((l.foldl (fun a i=>a ||| 2 ^ i) 0:Nat):Int):=fun k=>
 cZ (T:=ed) (x:=((l.foldl (fun a i=>a ||| 2 ^ i) 0:Nat):Int)) (o:=cB P 60 (bx [] []) 550 [] false [.list (nl l)]) (fh (st:=[(.v (S "numbers"),.aw (.list (nl l)))]) (by kernel_rfl) fun k=>(Ub P (nl l) k).trans (by
  refine ae (ai ..) (ae (bo (by exact af ‹_› (aa rfl))) ((ao ..).trans ?_))
  exact H1 l hl 0 (.inl rfl) (fun a i=>P7 P _ _ _ _) (fun a=>P8 P _ _ _))) k
theorem FY(b:Nat): ∀(l:List Nat)(a:Nat),(l.foldl (fun a i=>a ||| 2 ^ i) a).testBit b=(a.testBit b||l.any fun i=>decide (i=b)):=by
 intro l_
 induction l_ with
 |nil=>intro a;simp
 |cons i l ih=>
  intro a
  refine(?_:(l.foldl (fun a i=>a ||| 2 ^ i) (a ||| 2 ^ i)).testBit b=_)
  exact(ih ..).trans (ae (Nat.testBit_or ..) (ae Nat.testBit_two_pow (ae bO ((Bool.or_assoc ..)))))
theorem zT{w n:Nat}(h:w<2 ^ n):((List.range n).filter w.testBit).foldl (fun a i=>a ||| 2 ^ i) 0=w:=by
 refine Nat.eq_of_testBit_eq fun b=>?_
 refine(FY ..).trans (ae (Nat.zero_testBit ..) ((Bool.false_or ..).trans ?_))
 induction q:w.testBit b using ag with
 |true=>
  have hb:b<n:=by
   by_cases z:b<n
   .exact z
   .have:=Nat.testBit_lt_two_pow (bT h (Nat.pow_le_pow_right (by decide) (show n≤b by exact cG ‹_›)))
    rw[q]at this;exact Gy this
  exact cg.mpr ⟨b,List.mem_filter.mpr ⟨db.mpr hb,q⟩,by simp⟩
 |false=>
  rw[Bool.eq_false_iff]
  intro z
  obtain⟨i,hi,e⟩:=cg.mp z
  rw[a9]at e
  clear z;subst e
  rw[(List.mem_filter.mp hi).2]at q;exact Gy q
noncomputable abbrev Oz(P:Params)(pa:Nh)(cp:U1 MV)(du:U4 (List MV))(sl:U1 (List MV))(mo:U1 Int)(ni:U1 (List MV)):Cx:=bx [(S "_law_pen",AE),(S "_law_part",vJ pa),(S "local_call",k8 P),(S "check_program",s1 mX cp),(S "_law_due",s4 f9 du),(S "_law_slots",s1 f9 sl),(S "mask_of",s1 ed mo),(S "numbers_in",s1 f9 ni)] []
noncomputable abbrev bW(P:Params):List Stmt:=aL (KK P) 676
noncomputable def mY(P:Params)(pa:Nh)(cp:U1 MV)(du:U4 (List MV))(sl:U1 (List MV))(mo:U1 Int)(ni:U1 (List MV)):Cx:={ Oz P pa cp du sl mo ni with sc:=dF (KK P) 676,own:=false,sd:=false }
section
variable(P:Params)(pa:Nh)(cp:U1 MV)(du:U4 (List MV))(sl:U1 (List MV))(mo:U1 Int)(ni:U1 (List MV))
theorem Uh(xs:List MV)(k:St→aH):bF 60 (mY P pa cp du sl mo ni) ((bW P).take 1) [(.v (S "script"),.aw (.list xs))] k=match ints? xs with
 |some is=>bif aQ is.length then k [(.v (S "script"),.aw (.list xs)),(.v (S "pen"),.own (pJ ((is.take 40).map .int) 0 0))]else none
 |none=>none:=by kernel_rfl
theorem Ug(x p:MV)(k:St→aH):bF 59 (mY P pa cp du sl mo ni) (((bW P).drop 1).take 1) [(.v (S "script"),.aw x),(.v (S "pen"),.own p)] k=
 pa p true fun r t=>k [(.v (S "script"),.aw x),(.v (S "pen"),.own t),(.v (S "parts"),.own (.list [r]))]:=by kernel_rfl
noncomputable def tG(P:Params):Option Expr:=Wy (bW P) 2
theorem Uf(x p:MV)(rs:List MV)(k:St→aH):bF 58 (mY P pa cp du sl mo ni) (((bW P).drop 2).take 1) [(.v (S "script"),.aw x),(.v (S "pen"),.own p),(.v (S "parts"),.own (.list [.list rs]))] k=
 bif aQ rs.length then dS 55 (mY P pa cp du sl mo ni) (S "row") (tG P) rs [] [] fun us=>eN .NotEq (.list us) (.list []) fun b=>bif b then
  (pa p false fun r t=>k [(.v (S "script"),.aw x),(.v (S "pen"),.own t),(.v (S "parts"),.own (.list [.list rs,r]))])else k [(.v (S "script"),.aw x),(.v (S "pen"),.own p),(.v (S "parts"),.own (.list [.list rs]))]else none:=by kernel_rfl
theorem DT(o r w rd wr lk g:MV)(us acc:List MV)(k:List MV→aH):dS 55 (mY P pa cp du sl mo ni) (S "row") (tG P) (.list [o,r,w,rd,wr,lk,g]::us) [] acc k=
 bif isNone o then dS 55 (mY P pa cp du sl mo ni) (S "row") (tG P) us [(.v (S "row"),.aw (.list [o,r,w,rd,wr,lk,g]))] (acc++[.list [o,r,w,rd,wr,lk,g]]) k else dS 55 (mY P pa cp du sl mo ni) (S "row") (tG P) us [(.v (S "row"),.aw (.list [o,r,w,rd,wr,lk,g]))] acc k:=by kernel_rfl
theorem DS(o r w rd wr lk g old:MV)(us acc:List MV)(k:List MV→aH):dS 55 (mY P pa cp du sl mo ni) (S "row") (tG P) (.list [o,r,w,rd,wr,lk,g]::us) [(.v (S "row"),.aw old)] acc k=
 bif isNone o then dS 55 (mY P pa cp du sl mo ni) (S "row") (tG P) us [(.v (S "row"),.aw (.list [o,r,w,rd,wr,lk,g]))] (acc++[.list [o,r,w,rd,wr,lk,g]]) k else dS 55 (mY P pa cp du sl mo ni) (S "row") (tG P) us [(.v (S "row"),.aw (.list [o,r,w,rd,wr,lk,g]))] acc k:=by kernel_rfl
noncomputable abbrev lG(x p:MV)(pt:Slot)(bg:Int)(fd:Slot)(tail:St):St:=(.v (S "script"),.aw x)::(.v (S "pen"),.own p)::(.v (S "parts"),pt)::(.v (S "begin"),.aw (.int bg))::(.v (S "found"),fd)::tail
theorem Qh(x p:MV)(rs:List MV)(k:St→aH):bF 57 (mY P pa cp du sl mo ni) (((bW P).drop 3).take 1) [(.v (S "script"),.aw x),(.v (S "pen"),.own p),(.v (S "parts"),.own (.list [.list rs]))] k=
 k (lG x p (.own (.list [.list rs])) (rs.length:Nat) (.own (.list [])) []):=by kernel_rfl
theorem Qg(x p:MV)(rs Wl:List MV)(k:St→aH):bF 57 (mY P pa cp du sl mo ni) (((bW P).drop 3).take 1) [(.v (S "script"),.aw x),(.v (S "pen"),.own p),(.v (S "parts"),.own (.list [.list rs,.list Wl]))] k=
 k (lG x p (.own (.list [.list rs,.list Wl])) (rs.length:Nat) (.own (.list [])) []):=by kernel_rfl
noncomputable def BI(P:Params):List Stmt:=j1 (bW P) 4
noncomputable def uo(P:Params):List Stmt:=j1 (BI P) 0
theorem Ob(x p:MV)(ps fs:List MV)(bg:Int)(k:St→aH):bF 56 (mY P pa cp du sl mo ni) (((bW P).drop 4).take 1) (lG x p (.own (.list ps)) bg (.own (.list fs)) []) k=
 bif aQ ps.length then dN (bF 54 (mY P pa cp du sl mo ni) (BI P)) (S "rows") ps (lG x p (.aw (.list ps)) bg (.own (.list fs)) []) k else none:=by kernel_rfl
noncomputable abbrev RG(r:MV):St:=[(.v (S "rows"),.aw r)]
noncomputable abbrev yZ(r w:MV):St:=[(.v (S "rows"),.aw r),(.v (S "row"),.aw w)]
theorem Qf(x p:MV)(ps:MV)(fs rs:List MV)(bg:Int)(k:St→aH):bF 54 (mY P pa cp du sl mo ni) (BI P) (lG x p (.aw ps) bg (.own (.list fs)) (RG (.list rs))) k=
 bif aQ rs.length then dN (bF 52 (mY P pa cp du sl mo ni) (uo P)) (S "row") rs (lG x p (.aw ps) bg (.own (.list fs)) (RG (.list rs))) k else none:=by kernel_rfl
theorem Qe(x p:MV)(ps:MV)(fs rs:List MV)(bg:Int)(w:MV)(k:St→aH):bF 54 (mY P pa cp du sl mo ni) (BI P) (lG x p (.aw ps) bg (.own (.list fs)) (yZ (.list rs) w)) k=
 bif aQ rs.length then dN (bF 52 (mY P pa cp du sl mo ni) (uo P)) (S "row") rs (lG x p (.aw ps) bg (.own (.list fs)) (yZ (.list rs) w)) k else none:=by kernel_rfl
theorem Jw(x p:MV)(ps:MV)(fs:List MV)(bg:Int)(rws o r w rd wr lk g:MV)(k:St→aH):bF 52 (mY P pa cp du sl mo ni) (uo P) (lG x p (.aw ps) bg (.own (.list fs)) (yZ rws (.list [o,r,w,rd,wr,lk,g]))) k=
 bif isNone o then(bif aQ fs.length then k (lG x p (.aw ps) bg (.own (.list (fs++[ff 133 0 1 0 (bg-(fs.length:Nat)-1)]))) (yZ rws (.list [o,r,w,rd,wr,lk,g])))else none)
  else(bif aQ fs.length then k (lG x p (.aw ps) bg (.own (.list (fs++[o]))) (yZ rws (.list [o,r,w,rd,wr,lk,g])))else none):=by kernel_rfl
noncomputable abbrev Df(r w T:MV)(rg sg:Slot):St:=[(.v (S "rows"),.aw r),(.v (S "row"),.aw w),(.v (S "program"),.aw T),(.v (S "registers"),rg),(.v (S "slots"),sg)]
theorem Oa(x p:MV)(ps:MV)(fs:List MV)(bg:Int)(rws w:MV)(k:St→aH):bF 55 (mY P pa cp du sl mo ni) (((bW P).drop 5).take 2) (lG x p (.aw ps) bg (.own (.list fs)) (yZ rws w)) k=
 cp (.list fs) fun T=>k (lG x p (.aw ps) bg (.aw (.list fs)) (Df rws w T (.own (.list [])) (.own (.list [])))):=by kernel_rfl
noncomputable def Ha(P:Params):List Stmt:=j1 (bW P) 7
theorem N9(x p:MV)(ps fs:List MV)(bg:Int)(rws w T:MV)(rg sg:List MV)(k:St→aH):bF 53 (mY P pa cp du sl mo ni) (((bW P).drop 7).take 1) (lG x p (.aw (.list ps)) bg (.aw (.list fs)) (Df rws w T (.own (.list rg)) (.own (.list sg)))) k=
 bif aQ ps.length then dN (bF 51 (mY P pa cp du sl mo ni) (Ha P)) (S "rows") ps (lG x p (.aw (.list ps)) bg (.aw (.list fs)) (Df rws w T (.own (.list rg)) (.own (.list sg)))) k else none:=by kernel_rfl
noncomputable def X9(P:Params):Option Expr:=w6 (Ha P) 0
noncomputable def MX(P:Params)(i:Nat):Option Expr:=(X9 P).bind fun e=>if h:e.ctorIdx=2 then Expr.BinOp.elim (motive_1:=fun Y=>Option Expr) e h (fun Y Y r Y=>oC r (fun Y as Y=>as[i]?) none)else none
theorem Qd(x p:MV)(ps fs:List MV)(bg:Int)(rs:List MV)(w T:MV)(rg sg:List MV)(k:St→aH):bF 51 (mY P pa cp du sl mo ni) (Ha P) (lG x p (.aw (.list ps)) bg (.aw (.list fs)) (Df (.list rs) w T (.own (.list rg)) (.own (.list sg)))) k=
 bif aQ rs.length then dS 46 (mY P pa cp du sl mo ni) (S "row") (MX P 2) rs [] [] fun us=>bif aQ rs.length then dS 46 (mY P pa cp du sl mo ni) (S "row") (MX P 3) rs [] [] fun vs=>
  du (.list rs) (.range 0 ((11:Nat):Int) 1) (.list us) (.list vs) fun r=>bif aQ (rg.length+r.length)then sl (.list rs) fun q=>bif aQ (sg.length+q.length)then k (lG x p (.aw (.list ps)) bg (.aw (.list fs)) (Df (.list rs) w T (.own (.list (rg++r))) (.own (.list (sg++q)))))else none else none else none else none:=by kernel_rfl
theorem Jv(i:Nat)(hi:i=2∨i=3)(o r w rd wr lk g:MV)(k:KT):ev 46 { mY P pa cp du sl mo ni with sc:=tH (MX P i)} (fL (gu (MX P i))) [(.v (S "row"),.aw (.list [o,r,w,rd,wr,lk,g]))] k=k false (if i=2 then r else w) [(.v (S "row"),.aw (.list [o,r,w,rd,wr,lk,g]))]:=by
 rcases hi with rfl|rfl<;>kernel_rfl
end
noncomputable def iH(b n0 j:Nat)(r:Rw):Od where
 t:=r.tree (j:Int) ((n0:Int)-((b+j:Nat):Int)-1)
 ex:=false
 br:=iV r
 lo:=kh r
 goal:=if iV r then b+r.goal.toNat else n0
 reads:=r.reads
 writes:=r.writes
 rd:=r.rd
 wr:=r.wr
 lk:=r.fF
noncomputable def ou:Od:=⟨ff 149 0 0 0 0,true,false,false,0,[0],[],[],[],false⟩
noncomputable def eB(b n0:Nat):Nat→List Rw→List Od
 |_,[]=>[ou]
 |i,r::rs=>iH b n0 i r::eB b n0 (i+1) rs
theorem eK{b n0:Nat}: ∀{rs:List Rw}{i:Nat},(eB b n0 i rs).length=rs.length+1:=by
 intro l_
 induction l_ with
 |nil=>intro i;exact rfl
 |cons r rs ih=>intro i;(rewrite[eB];exact bw.trans (ae ih (ae bw rfl)))
theorem jy{b n0:Nat}: ∀{rs:List Rw}{i j:Nat}{r:Rw},rs[j]? =some r→(eB b n0 i rs)[j]? =some (iH b n0 (i+j) r):=by
 intro rs
 induction rs with
 |nil=>intro i j r h;exact nn h
 |cons s rs ih=>
  intro i j r h
  induction j using Nat.casesOn with
  |zero=>exact b8 h▸rfl
  |succ j=>exact(ih h).trans (aB (fun k=>some (iH b n0 k r)) (Nat.succ_add_eq_add_succ i j))
theorem jT{b n0:Nat}: ∀{rs:List Rw}{i:Nat},(eB b n0 i rs)[rs.length]? =some ou:=by
 intro l_
 induction l_ with
 |nil=>intro i;exact rfl
 |cons r rs ih=>intro i;exact ih (i:=i+1)
theorem sJ{b n0:Nat}{rs:List Rw}{i j:Nat}{o:Od}(h:(eB b n0 i rs)[j]? =some o):(∃r,rs[j]? =some r∧o=iH b n0 (i+j) r)∨(j=rs.length∧o=ou):=by
 have hl:=(a8.mp h).1
 rw[eK]at hl
 by_cases q:j<rs.length
 .left
  have:=jy (b:=b) (n0:=n0) (i:=i) (aq q)
  rw[h]at this
  exact⟨rs[j],aq q,by clear h;obtain rfl:=b8 this;rfl⟩
 .right
  have e:j=rs.length:=by lia
  clear hl q;subst e
  rw[jT]at h
  exact⟨rfl,by obtain rfl:=b8 h;rfl⟩
noncomputable def Np(n0:Nat):Option (List Rw)→List Od
 |none=>[]
 |some rs=>eB n0 n0 0 rs
noncomputable def d8(r0:List Rw)(tl:Option (List Rw)):List Od:=eB 0 (r0.length+1) 0 r0++Np (r0.length+1) tl
structure lu(r0:List Rw)(tl:Option (List Rw))(l0 l1:Bool):Prop where
 a:3≤r0.length
 b:r0.length≤7
 c: ∀r∈r0,Rw.ok (r0.length:Nat) true l0 r
 d:tl=none→ ∀r∈r0,kh r=false
 e: ∀r1,tl=some r1→(∃r∈r0,kh r=true)∧3≤r1.length∧r1.length≤7∧ ∀r∈r1,Rw.ok (r1.length:Nat) false l1 r
theorem n7{r:Rw}(h:iV r=true):kh r=false:=by induction r using Rw.casesOn<;>first|rfl|exact ew h
theorem Fz{count:Int}{l:Bool}{r:Rw}(h:Rw.ok count false l r):kh r=false:=by
 induction r using Rw.casesOn<;>first|rfl|exact ew h
theorem mI{count:Nat}{m l:Bool}{r:Rw}(h:Rw.ok (count:Int) m l r)(hb:iV r=true):0≤r.goal∧r.goal.toNat≤count:=by
 cases r with
 |br c one goal=>
  obtain⟨Y,Y,h1,h2⟩:=h
  exact⟨h1,Int.toNat_le.mpr h2⟩
 |_=>exact ew hb
theorem xW{r:Rw}(hb:iV r=false):r.goal= -1:=by induction r using Rw.casesOn<;>first|rfl|exact Gy hb
theorem A5{P:Params}{count:Nat}{m l:Bool}{r:Rw}(h:Rw.ok (count:Int) m l r)(b n0 j:Nat):uB P (iH b n0 j r).t (iH b n0 j r).ex (iH b n0 j r).br (iH b n0 j r).lo (((iH b n0 j r).goal:Int)-((b+j:Nat):Int)-1) (iH b n0 j r).reads (iH b n0 j r).writes (iH b n0 j r).rd (iH b n0 j r).wr (iH b n0 j r).lk:=by
 have x:=PH (P:=P) (at_:=(j:Int)) (away:=(n0:Int)-((b+j:Nat):Int)-1) h
 have e:(((iH b n0 j r).goal:Nat):Int)-((b+j:Nat):Int)-1=r.dist (j:Int) ((n0:Int)-((b+j:Nat):Int)-1):=by
  induction hb:iV r using ag with
  |true=>
   obtain⟨g1,g2⟩:=mI h hb
   clear h x g2;cases r with
   |br c one goal=>
    have g1:0≤goal:=g1
    refine(?_:((b+goal.toNat:Nat):Int)-((b+j:Nat):Int)-1=goal-(j:Int)-1)
    rw[Int.natCast_add,Int.natCast_add,Int.toNat_of_nonneg g1,Int.add_sub_add_left]
   |_=>exact ew hb
  |false=>
   cases r with
   |br=>exact Gy hb
   |_=>rfl
 exact ae e x
theorem DP{P:Params}{r0:List Rw}{tl:Option (List Rw)}{l0 l1:Bool}(H:lu r0 tl l0 l1):PG P (d8 r0 tl) (r0.length+1):=by
 have WJ:(eB 0 (r0.length+1) 0 r0).length=r0.length+1:=eK
 have a:=H.a
 have b:=H.b
 have len:(d8 r0 tl).length=r0.length+1+(Np (r0.length+1) tl).length:=by exact b0.trans (ae WJ rfl)
 have split: ∀(i:Nat)(o:Od),(d8 r0 tl)[i]? =some o→(∃r,r0[i]? =some r∧o=iH 0 (r0.length+1) i r)∨(i=r0.length∧o=ou)∨ ∃r1 j,tl=some r1∧i=r0.length+1+j∧((∃r,r1[j]? =some r∧o=iH (r0.length+1) (r0.length+1) j r)∨(j=r1.length∧o=ou)):=by
  intro i o h
  unfold d8 at h
  by_cases q:i<r0.length+1
  .rw[List.getElem?_append_left (by lia)]at h
   rcases sJ h with⟨r,h1,h2⟩|h
   .exact .inl ⟨r,h1,by exact h2.trans (ae (aT ..) rfl)⟩
   .exact .inr (.inl h)
  .rw[List.getElem?_append_right (by lia),WJ]at h
   clear H len;induction tl using ab with
   |none=>exact nn h
   |some r1=>
    refine .inr (.inr ⟨r1,i-(r0.length+1),rfl,by exact Wa ‹_›,?_⟩)
    rcases sJ h with⟨r,h1,h2⟩|h
    .exact .inl ⟨r,h1,by exact h2.trans (ae (aT ..) rfl)⟩
    .exact .inr h
 have Ds: ∀r1,tl=some r1→(Np (r0.length+1) tl).length=r1.length+1:=fun r1 e=>by exact ae e eK
 have Og: ∀d:Int,uB P ou.t ou.ex ou.br ou.lo d ou.reads ou.writes ou.rd ou.wr ou.lk:=fun d=>let x:=Qi (P:=P);⟨x.fl,(fun h=>nomatch h),x.Rx,x.slots,x.J4⟩
 refine⟨fun i o h=>?_,by lia,by exact Nat.lt_succ_of_le ‹_›,by lia,?_,fun i o h hb=>?_,fun i o h hl=>?_,fun i o h=>?_,fun h=>?_,fun i o h he=>?_,fun i o h hb=>?_⟩
 .rcases split i o h with⟨r,h1,rfl⟩|⟨rfl,rfl⟩|⟨r1,j,e1,rfl,⟨r,h1,rfl⟩|⟨rfl,rfl⟩⟩
  .have:=A5 (P:=P) (H.c r (cv h1)) 0 (r0.length+1) i
   rw[aT]at this;exact this
  .exact Og _
  .exact A5 (P:=P) ((H.e r1 e1).2.2.2 r (cv h1)) (r0.length+1) (r0.length+1) j
  .exact Og _
 .refine ae len ?_
  clear len split;induction tl using ab with
  |none=>refine(?_:r0.length+1+0≤16);exact aX ‹_› (aa rfl)
  |some r1=>
   have:=H.e r1 rfl
   refine ae (Ds r1 rfl) ?_;lia
 .rcases split i o h with⟨r,h1,rfl⟩|⟨rfl,rfl⟩|⟨r1,j,e1,rfl,⟨r,h1,rfl⟩|⟨rfl,rfl⟩⟩
  .obtain⟨g1,g2⟩:=mI (H.c r (cv h1)) hb
   have hi:=(a8.mp h1).1
   have hb:iV r=true:=hb
   have e:(iH 0 (r0.length+1) i r).goal=0+r.goal.toNat:=by refine(?_:(if iV r then 0+r.goal.toNat else r0.length+1)=_);exact ae hb ((aF rfl))
   refine ae e ?_
   exact⟨fun Y=>by lia,fun q=>by lia⟩
  .exact ew hb
  .obtain⟨g1,g2⟩:=mI ((H.e r1 e1).2.2.2 r (cv h1)) hb
   have hb:iV r=true:=hb
   have e:(iH (r0.length+1) (r0.length+1) j r).goal=r0.length+1+r.goal.toNat:=by refine(?_:(if iV r then r0.length+1+r.goal.toNat else r0.length+1)=_);exact ae hb ((aF rfl))
   refine ae e (ae len (ae (Ds r1 e1) ?_))
   exact⟨fun Y=>by lia,fun Y=>by lia⟩
  .exact ew hb
 .rcases split i o h with⟨r,h1,rfl⟩|⟨rfl,rfl⟩|⟨r1,j,e1,rfl,⟨r,h1,rfl⟩|⟨rfl,rfl⟩⟩
  .have hi:=(a8.mp h1).1
   have hl:kh r=true:=hl
   have hb:iV r=false:=by
    induction q:iV r using ag with
    |false=>rfl
    |true=>rw[n7 q]at hl;exact ew hl
   refine⟨by exact Nat.le_succ_of_le ‹_›,by refine(?_:(if iV r then 0+r.goal.toNat else r0.length+1)=_);refine ae hb ?_;rfl,?_⟩
   refine ae len ?_
   clear len split h;induction tl using ab with
   |none=>have:=H.d rfl r (cv h1);rw[this]at hl;exact ew hl
   |some r1=>refine ae (Ds r1 rfl) ?_;lia
  .exact ew hl
  .have:=Fz ((H.e r1 e1).2.2.2 r (cv h1))
   have hl:kh r=true:=hl
   rw[this]at hl;exact ew hl
  .exact ew hl
 .rcases split i o h with⟨r,h1,rfl⟩|⟨rfl,rfl⟩|⟨r1,j,e1,rfl,⟨r,h1,rfl⟩|⟨rfl,rfl⟩⟩
  .have hi:=(a8.mp h1).1
   exact⟨fun q=>(nomatch q),fun q=>by lia⟩
  .exact⟨fun Y=> .inl rfl,fun Y=>rfl⟩
  .have hi:=(a8.mp h1).1
   have ll:=Ds r1 e1
   exact⟨fun q=>(nomatch q),fun q=>by lia⟩
  .have ll:=Ds r1 e1
   exact⟨fun Y=> .inr (by lia),fun Y=>rfl⟩
 .induction WB:tl using ab with
  |none=>rw[len,WB]at h;have h:r0.length+1<r0.length+1+0:=h;exact absurd ‹_› (Nat.lt_irrefl _)
  |some r1=>
   obtain⟨⟨r,hr,hl⟩,Y⟩:=H.e r1 WB
   obtain⟨i,hi⟩:=List.mem_iff_getElem?.mp hr
   have gG:=(a8.mp hi).1
   refine⟨i,iH 0 (r0.length+1) i r,?_,hl⟩
   exact(List.getElem?_append_left (by lia)).trans ((jy hi).trans (ae (aT ..) rfl))
 .rcases split i o h with⟨r,h1,rfl⟩|⟨rfl,rfl⟩|⟨r1,j,e1,rfl,⟨r,h1,rfl⟩|⟨rfl,rfl⟩⟩
  .exact ew he
  .exact⟨rfl,rfl⟩
  .exact ew he
  .exact⟨rfl,rfl⟩
 .rcases split i o h with⟨r,h1,rfl⟩|⟨rfl,rfl⟩|⟨r1,j,e1,rfl,⟨r,h1,rfl⟩|⟨rfl,rfl⟩⟩
  .exact n7 hb
  .exact ew hb
  .exact n7 hb
  .exact ew hb
noncomputable def iw(rs:List Rw)(i:Nat):List Nat:=match rs[i]? with
 |some r=>if r.goal<0 then[i+1]else[i+1,r.goal.toNat]
 |none=>[]
noncomputable def qr(rs:List Rw)(f:Rw→List Int)(d:List Int)(i:Nat):List Int:=match rs[i]? with
 |some r=>f r
 |none=>d
theorem ki{succ Jd:Nat→List Nat}{r r' w w':Nat→Nat}{op Bz:Nat→Bool}{i j:Nat}{f g:List Nat}(h1:op i=Bz j)
 (h2:op i=false→r i=r' j∧w i=w' j∧ ∀b,((succ i).any fun k=>cC f k b)=(Jd j).any fun k=>cC g k b):f5 succ r w op i f=f5 Jd r' w' Bz j g:=by
 induction q:op i using ag with
 |true=>
  delta f5
  exact ft h1 (ae q ((aF rfl).trans (ae (aF rfl) rfl)))
 |false=>
  obtain⟨a,b,c⟩:=h2 q
  refine Nat.eq_of_testBit_eq fun og=>?_
  exact(mB q).trans (ae (mB (by rw[←h1,q])) (ae a (ae b (ae (c ..) rfl))))
theorem EZ{rs:List Rw}{b n0 i og:Nat}{r:Rw}{F g:List Nat}(hF: ∀j og,j≤rs.length→cC F (b+j) og=cC g j og)(hi:rs[i]? =some r)(hg:iV r=true→0≤r.goal∧r.goal.toNat≤rs.length):
 ((eq (b+i) (iH b n0 i r)).any fun k=>cC F k og)=(iw rs i).any fun k=>cC g k og:=by
 have gG:=(a8.mp hi).1
 have e1:cC F (b+i+1) og=cC g (i+1) og:=by exact ae (Nat.add_assoc ..) (hF (i+1) og (by assumption))
 have h0:eq (b+i) (iH b n0 i r)=if(iV r&& !((if iV r then b+r.goal.toNat else n0)==b+i+1))=true then[b+i+1,(if iV r then b+r.goal.toNat else n0)]else[b+i+1]:=by
  delta eq
  refine(?_:(if false=true then _ else _)=_)
  exact(az (fun h=>nomatch h)).trans rfl
 delta iw
 refine ae hi (ae h0 ?_)
 induction hb:iV r using ag with
 |false=>
  have:=xW hb
  refine(?_:(List.any [b+i+1] _)=(if r.goal<0 then[i+1]else[i+1,r.goal.toNat]).any _)
  exact ae (aF (by lia)) (bO.trans (ae List.any_nil (ae bO (ae List.any_nil (ae e1 rfl)))))
 |true=>
  obtain⟨g1,g2⟩:=hg hb
  have e2:=hF r.goal.toNat og g2
  refine(?_:(List.any (if(true&& !(b+r.goal.toNat==b+i+1))=true then[b+i+1,b+r.goal.toNat]else[b+i+1]) _)=(if r.goal<0 then[i+1]else[i+1,r.goal.toNat]).any _)
  refine ae (az (show ¬r.goal<0 by exact Int.not_lt.mpr ‹_›)) ?_
  by_cases q:b+r.goal.toNat=b+i+1
  .have q':r.goal.toNat=i+1:=by lia
   refine ae (az (by simp[q])) (ae q' ?_)
   simp only[bO,List.any_nil,e1,Bool.or_false,Bool.or_self]
  .refine ae (aF (by simpa using q)) ?_
   simp only[bO,List.any_nil,e1,e2,Bool.or_false]
section
variable{r0:List Rw}{tl:Option (List Rw)}{l0 l1:Bool}
theorem xK(h:i≤r0.length):(d8 r0 tl)[i]? =(eB 0 (r0.length+1) 0 r0)[i]? :=by
 exact(List.getElem?_append_left (by rw[eK];exact Nat.lt_succ_of_le ‹_›))
theorem p7{r1:List Rw}:(d8 r0 (some r1))[r0.length+1+i]? =(eB (r0.length+1) (r0.length+1) 0 r1)[i]? :=by
 refine(List.getElem?_append_right (by rw[eK];exact bN _ _)).trans (ae eK (ae (Nat.add_sub_cancel_left ..) ?_));rfl
theorem kv:(d8 r0 none).length=r0.length+1:=by exact b0.trans (ae eK rfl)
theorem hZ{r1:List Rw}:(d8 r0 (some r1)).length=r0.length+1+(r1.length+1):=by refine b0.trans (ae eK ?_);refine(?_:_+(eB _ _ _ _).length=_);exact ae eK rfl
theorem pS{os:List Od}{b n0:Nat}{rs:List Rw}(ho: ∀i,i≤rs.length→os[b+i]? =(eB b n0 0 rs)[i]?)(hg: ∀r∈rs,iV r=true→0≤r.goal∧r.goal.toNat≤rs.length)(hi:i≤rs.length):
 IU os (b+i)=dA 11 (qr rs Rw.reads [0] i)∧IN os (b+i)=dA 11 (qr rs Rw.writes [] i)∧zb os (b+i)=dA 8 (qr rs (fun r=>Av r.rd) [] i)∧y9 os (b+i)=dA 8 (qr rs (fun r=>wG r.wr) [] i)∧ox os (b+i)=(match rs[i]? with|some r=>r.fF|none=>false)∧
 ∀F g:List Nat,(∀j og,j≤rs.length→cC F (b+j) og=cC g j og)→ ∀og,((jn os (b+i)).any fun k=>cC F k og)=(iw rs i).any fun k=>cC g k og:=by
 have h:=ho i hi
 by_cases q:i<rs.length
 .have hr:rs[i]? =some rs[i]:=aq q
  rw[jy hr,aT]at h
  refine⟨?_,?_,?_,?_,?_,fun F g hF og=>?_⟩
  .delta IU qr;exact ae h (ae hr rfl)
  .delta IN qr;exact ae h (ae hr rfl)
  .delta zb qr;exact ae h (ae hr rfl)
  .delta y9 qr;exact ae h (ae hr rfl)
  .delta ox;exact ae h (ae hr rfl)
  .delta jn
   refine ae h ?_
   exact EZ hF hr (hg _ (List.getElem_mem q))
 .have e:i=rs.length:=by exact IM ‹_› ‹_›
  subst e
  rw[jT]at h
  have hn:rs[rs.length]? =none:=bY (bn _)
  refine⟨?_,?_,?_,?_,?_,fun F g hF og=>?_⟩
  .delta IU qr;exact ae h (ae hn rfl)
  .delta IN qr;exact ae h (ae hn rfl)
  .delta zb qr;exact ae h (ae hn rfl)
  .delta y9 qr;refine ae h (ae hn ?_)
   refine(?_:dA 8 (wG [])=dA 8 [])
   rfl
  .delta ox;exact ae h (ae hn rfl)
  .delta jn iw
   refine ae h (ae hn ?_)
   rfl
noncomputable def jq(rs:List Rw):List Nat:=iter (jL 11 (iw rs) (qr rs Rw.reads [0]) (qr rs Rw.writes [])) (rs.length+1) (rs.length+1+1)
noncomputable def Ic(rs:List Rw):List Nat:=iter (jL 8 (iw rs) (qr rs (fun r=>Av r.rd) []) (qr rs (fun r=>wG r.wr) [])) (rs.length+1) (rs.length+1+1)
noncomputable def gn(rs:List Rw):List Nat:=if rs.any Rw.fF then List.replicate (rs.length+1) Kp else Ic rs
theorem v9{B:Nat}{rs:List Rw}{f g:Nat→List Int}(t:Nat):iter (jL B (iw rs) f g) (rs.length+1) t=iter (f5 (iw rs) (fun i=>dA B (f i)) (fun i=>dA B (g i)) fun Y=>false) (rs.length+1) t∧ ∀m∈iter (jL B (iw rs) f g) (rs.length+1) t,m<2 ^ B:=
 FQ (fun i b Y=>nW _ b B) (fun i b Y hb=>by exact(nW ..).trans (ae (aW hb) ((Bool.true_and ..)))) t
theorem Bc{u:Nat→List Nat→Nat}(M:BR u n){t:Nat}(h:n≤t):iter u n t=iter u n (n+1):=by
 obtain⟨s,rfl⟩:=Nat.exists_eq_add_of_le h
 refine(p8 (mN M n (bn n)) s).trans ?_
 exact(p8 (mN M n (bn n)) 1).symm
theorem zw{rs:List Rw}{t:Nat}(h:rs.length+1≤t):iter (f5 (iw rs) (fun i=>dA 11 (qr rs Rw.reads [0] i)) (fun i=>dA 11 (qr rs Rw.writes [] i)) fun Y=>false) (rs.length+1) t=jq rs:=by
 refine(Bc oO h).trans ?_
 exact(v9 _).1.symm
noncomputable abbrev XR(rs:List Rw)(op:Bool):Nat→List Nat→Nat:=f5 (iw rs) (fun i=>dA 8 (qr rs (fun r=>Av r.rd) [] i)) (fun i=>dA 8 (qr rs (fun r=>wG r.wr) [] i)) fun Y=>op
theorem B0{u:Nat→List Nat→Nat}(hu: ∀i f,u i f=Kp){f:List Nat}(hf:f.length=n):jm u n f=List.replicate n Kp:=by
 apply List.ext_getElem?
 intro j
 have go: ∀(is:List Nat)(f:List Nat),f.length=n→ ∀j,(cN u is f)[j]? =if j∈is∧j<n then some Kp else f[j]? :=by
  intro is
  induction is with
  |nil=>intro f Y j;exact ae (az (fun h=>nomatch h.1)) rfl
  |cons i is ih=>
   intro f hf j
   refine(?_:(cN u is (f.set i (u i f)))[j]? =_)
   refine(ih _ (by rw[cP,hf]) ..).trans (ae (hu ..) (ae (List.getElem?_set) ?_))
   by_cases h1:j∈is∧j<n
   .exact(aF h1).trans (ae (aF ⟨.tail _ h1.1,h1.2⟩) rfl)
   .refine(az h1).trans ?_
    by_cases h2:i=j
    .subst h2
     by_cases h3:i<n
     .exact(aF rfl).trans (ae hf ((aF h3).trans (ae (aF ⟨.head _,h3⟩) rfl)))
     .exact(aF rfl).trans (ae hf ((az h3).trans (ae (az (fun z=>h3 z.2)) (ae (bY (by lia)) rfl))))
    .refine(az h2).trans ?_
     by_cases h3:j∈i::is∧j<n
     .rcases aA.mp h3.1 with e|e
      .exact absurd e.symm h2
      .exact absurd ⟨e,h3.2⟩ h1
     .exact ae (az h3) rfl
 refine(go _ f hf ..).trans (ae (List.getElem?_replicate) ?_)
 by_cases q:j<n
 .exact(aF ⟨kV.mpr q,q⟩).trans (ae (aF q) rfl)
 .exact ae (az (fun z=>q z.2)) (ae (az q) ((bY (by lia))))
theorem zu{rs:List Rw}{t:Nat}(h:rs.length+1≤t):iter (XR rs (rs.any Rw.fF)) (rs.length+1) t=gn rs:=by
 delta gn
 induction q:rs.any Rw.fF using ag with
 |false=>
  refine ae (az (fun h=>nomatch h)) ((Bc oO h).trans ?_)
  exact(v9 _).1.symm
 |true=>
  refine ae (aF rfl) ?_
  obtain⟨s,rfl⟩: ∃s,t=s+1:=⟨t-1,Nl (bT (Nat.succ_pos _) ‹_›)⟩
  exact B0 (fun i f=>rfl) (dC s)
theorem Bo{f g:List Nat}{j og:Nat}(h:j<f.length):cC (f++g) j og=cC f j og:=by
 delta cC
 exact ae (aM) (ae (aM) (ae (List.getElem?_append_left h) rfl))
theorem yr{f g:List Nat}{j og:Nat}:cC (f++g) (f.length+j) og=cC g j og:=by
 delta cC
 exact ae (aM) (ae (aM) (ae (List.getElem?_append_right (by exact bN _ _)) (ae (Nat.add_sub_cancel_left ..) rfl)))
theorem vN: ∀i,i≤r0.length→(d8 r0 tl)[0+i]? =(eB 0 (r0.length+1) 0 r0)[i]? :=fun i h=>by exact ae (aT ..) (xK h)
theorem vR(H:lu r0 tl l0 l1): ∀r∈r0,iV r=true→0≤r.goal∧r.goal.toNat≤r0.length:=fun r hr hb=>mI (H.c r hr) hb
theorem Ev{r1:List Rw}(H:lu r0 (some r1) l0 l1): ∀r∈r1,iV r=true→0≤r.goal∧r.goal.toNat≤r1.length:=fun r hr hb=>mI ((H.e r1 rfl).2.2.2 r hr) hb
theorem Jn(H:lu r0 none l0 l1):lx (d8 r0 none)=jq r0:=by
 delta lx
 refine ae kv (ft (zw (bn _)) ?_)
 refine(p9 (fun f=>f.length=r0.length+1) _ (fun i f hi hf=>⟨?_,by exact cP.trans (hf)⟩) (cM ..) _).1
 obtain⟨a,b,Y,Y,Y,c⟩:=pS (b:=0) (n0:=r0.length+1) (vN (tl:=none)) (vR H) (i:=i) (by exact bf ‹_›)
 rw[aT]at a b c
 exact ki rfl fun Y=>⟨a,b,c f f fun j og Y=>by exact ae (aT ..) rfl⟩
theorem Jm{r1:List Rw}(H:lu r0 (some r1) l0 l1):lx (d8 r0 (some r1))=jq r0++jq r1:=by
 delta lx
 refine ae hZ (ft (zw (rs:=r0) (t:=r0.length+1+(r1.length+1)) (by exact bN _ _)) (ft (zw (rs:=r1) (t:=r0.length+1+(r1.length+1)) (by exact Nat.le_add_left _ _)) ?_))
 refine nX (fun i f g hi hf hg=>?_) (fun i f g hi hf hg=>?_) _
 .obtain⟨a,b,Y,Y,Y,c⟩:=pS (b:=0) (n0:=r0.length+1) (vN (tl:=some r1)) (vR H) (i:=i) (by exact bf ‹_›)
  rw[aT]at a b c
  exact ki rfl fun Y=>⟨a,b,c (f++g) f fun j og hj=>by exact ae (aT ..) (Bo (by lia))⟩
 .obtain⟨a,b,Y,Y,Y,c⟩:=pS (os:=d8 r0 (some r1)) (b:=r0.length+1) (n0:=r0.length+1) (rs:=r1) (fun i Y=>p7) (Ev H) (i:=i) (by exact bf ‹_›)
  exact ki rfl fun Y=>⟨a,b,c (f++g) g fun j og hj=>by exact ft hf yr⟩
theorem vO(h:i≤r0.length):ox (d8 r0 tl) i=(match r0[i]? with|some r=>r.fF|none=>false):=by
 delta ox
 refine ae (xK h) ?_
 by_cases q:i<r0.length
 .refine ae (jy (aq q)) (ae (aq q) ?_);rfl
 .have e:i=r0.length:=by exact IM ‹_› ‹_›
  subst e
  refine ae jT (ae (bY (bn _)) ?_);rfl
theorem Ba{r1:List Rw}(h:i≤r1.length):ox (d8 r0 (some r1)) (r0.length+1+i)=(match r1[i]? with|some r=>r.fF|none=>false):=by
 delta ox
 refine ae p7 ?_
 by_cases q:i<r1.length
 .refine ae (jy (aq q)) (ae (aq q) ?_);rfl
 .have e:i=r1.length:=by exact IM ‹_› ‹_›
  subst e
  refine ae jT (ae (bY (bn _)) ?_);rfl
theorem sB{rs:List Rw}:rs.any Rw.fF=true↔ ∃i,i≤rs.length∧(match rs[i]? with|some r=>r.fF|none=>false)=true:=by
 constructor
 .intro h
  obtain⟨r,hr,hl⟩:=cg.mp h
  obtain⟨i,hi⟩:=List.mem_iff_getElem?.mp hr
  exact⟨i,ca (a8.mp hi).1,by exact ae hi hl⟩
 .rintro⟨i,Y,hl⟩
  induction hr:rs[i]? using ab with
  |none=>rw[hr]at hl;exact ew hl
  |some r=>rw[hr]at hl;exact cg.mpr ⟨r,cv hr,hl⟩
theorem sz{a b:Bool}(h:a=true↔b=true):a=b:=by induction a using ag<;>induction b using ag<;>simp_all
theorem HV(hi:i≤r0.length):rC (d8 r0 none) (r0.length+1) i=r0.any Rw.fF:=by
 refine sz ?_
 (refine sn.trans ?_;rw[sB])
 have s: ∀j,dH (d8 r0 none) (r0.length+1) j=0:=fun j=>by delta dH;exact ae kv (ae (az (fun z=>Nat.lt_irrefl _ z.1)) rfl)
 constructor
 .rintro⟨j,a,b,Y⟩
  rw[kv]at a
  rw[vO (by exact bf ‹_›)]at b
  exact⟨j,by exact bf ‹_›,b⟩
 .rintro⟨j,a,b⟩
  exact⟨j,by refine ae kv ?_;exact Nat.lt_succ_of_le ‹_›,by refine(vO a).trans ?_;exact b,by exact(s ..).trans (ae (s ..) rfl)⟩
theorem HU{r1:List Rw}(hi:i≤r0.length):rC (d8 r0 (some r1)) (r0.length+1) i=r0.any Rw.fF:=by
 refine sz ?_
 (refine sn.trans ?_;rw[sB])
 have s: ∀j,j≤r0.length→dH (d8 r0 (some r1)) (r0.length+1) j=0:=fun j hj=>by delta dH;exact(az (fun z=>by lia))
 have s1: ∀j,r0.length+1≤j→dH (d8 r0 (some r1)) (r0.length+1) j=r0.length+1:=fun j hj=>by delta dH;exact ae hZ ((aF ⟨by lia,hj⟩))
 constructor
 .rintro⟨j,a,b,c⟩
  by_cases q:j≤r0.length
  .rw[vO q]at b
   exact⟨j,q,b⟩
  .rw[s i hi,s1 j (by exact Nat.lt_of_not_le ‹_›)]at c;lia
 .rintro⟨j,a,b⟩
  exact⟨j,by refine ae hZ ?_;lia,by refine(vO a).trans ?_;exact b,by exact(s i hi).trans (ae (s j a) rfl)⟩
theorem HW{r1:List Rw}(hi:i≤r1.length):rC (d8 r0 (some r1)) (r0.length+1) (r0.length+1+i)=r1.any Rw.fF:=by
 refine sz ?_
 (refine sn.trans ?_;rw[sB])
 have s: ∀j,j≤r0.length→dH (d8 r0 (some r1)) (r0.length+1) j=0:=fun j hj=>by delta dH;exact(az (fun z=>by lia))
 have s1: ∀j,r0.length+1≤j→dH (d8 r0 (some r1)) (r0.length+1) j=r0.length+1:=fun j hj=>by delta dH;exact ae hZ ((aF ⟨by lia,hj⟩))
 constructor
 .rintro⟨j,a,b,c⟩
  rw[hZ]at a
  by_cases q:j≤r0.length
  .rw[s j q,s1 _ (by exact bN _ _)]at c;lia
  .clear c;obtain⟨k,rfl⟩: ∃k,j=r0.length+1+k:=⟨j-(r0.length+1),Wa fun z=>q (Nat.le_of_lt_succ z)⟩
   rw[Ba (by lia)]at b
   exact⟨k,by lia,b⟩
 .rintro⟨j,a,b⟩
  exact⟨r0.length+1+j,by refine ae hZ ?_;lia,by refine(Ba a).trans ?_;exact b,by exact(s1 _ (by exact bN _ _)).trans (ae (s1 _ (by exact bN _ _)) rfl)⟩
theorem Pg(H:lu r0 none l0 l1):lH (d8 r0 none) (r0.length+1)=gn r0:=by
 delta lH
 refine ae kv (ft (zu (bn _)) ?_)
 refine(p9 (fun f=>f.length=r0.length+1) _ (fun i f hi hf=>⟨?_,by exact cP.trans (hf)⟩) (cM ..) _).1
 obtain⟨Y,Y,a,b,Y,c⟩:=pS (b:=0) (n0:=r0.length+1) (vN (tl:=none)) (vR H) (i:=i) (by exact bf ‹_›)
 rw[aT]at a b c
 exact ki (HV (by exact bf ‹_›)) fun Y=>⟨a,b,c f f fun j og Y=>by exact ae (aT ..) rfl⟩
theorem Pf{r1:List Rw}(H:lu r0 (some r1) l0 l1):lH (d8 r0 (some r1)) (r0.length+1)=gn r0++gn r1:=by
 delta lH
 refine ae hZ (ft (zu (rs:=r0) (t:=r0.length+1+(r1.length+1)) (by exact bN _ _)) (ft (zu (rs:=r1) (t:=r0.length+1+(r1.length+1)) (by exact Nat.le_add_left _ _)) ?_))
 refine nX (fun i f g hi hf hg=>?_) (fun i f g hi hf hg=>?_) _
 .obtain⟨Y,Y,a,b,Y,c⟩:=pS (b:=0) (n0:=r0.length+1) (vN (tl:=some r1)) (vR H) (i:=i) (by exact bf ‹_›)
  rw[aT]at a b c
  exact ki (HU (by exact bf ‹_›)) fun Y=>⟨a,b,c (f++g) f fun j og hj=>by exact ae (aT ..) (Bo (by lia))⟩
 .obtain⟨Y,Y,a,b,Y,c⟩:=pS (os:=d8 r0 (some r1)) (b:=r0.length+1) (n0:=r0.length+1) (rs:=r1) (fun i Y=>p7) (Ev H) (i:=i) (by exact bf ‹_›)
  exact ki (HW (by exact bf ‹_›)) fun Y=>⟨a,b,c (f++g) g fun j og hj=>by exact ft hf yr⟩
end
noncomputable def lL(i:Nat)(r:Rw):ez:=⟨r.ord (i:Int),r.reads,r.writes,r.rd,r.wr,r.fF,r.goal⟩
noncomputable def hV:ez:=⟨ff 149 0 0 0 0,[0],[],[],[],false,-1⟩
noncomputable def g5:Nat→List Rw→List ez
 |_,[]=>[hV]
 |i,r::rs=>lL i r::g5 (i+1) rs
theorem CF: ∀{rs:List Rw}{i:Nat},(g5 i rs).map ez.val=io (i:Int) rs++[oT]:=by
 intro l_
 induction l_ with
 |nil=>intro i;exact rfl
 |cons r rs ih=>
  intro i
  (rewrite[g5];refine bv.trans (ae (ih (i:=i+1)) ?_))
  rfl
theorem kB: ∀{rs:List Rw}{i:Nat},(g5 i rs).length=rs.length+1:=by
 intro l_
 induction l_ with
 |nil=>intro i;exact rfl
 |cons r rs ih=>intro i;(rewrite[g5];exact bw.trans (ae ih (ae bw rfl)))
theorem qc: ∀{rs:List Rw}{i j:Nat}{r:Rw},rs[j]? =some r→(g5 i rs)[j]? =some (lL (i+j) r):=by
 intro rs
 induction rs with
 |nil=>intro i j r h;exact nn h
 |cons s rs ih=>
  intro i j r h
  induction j using Nat.casesOn with
  |zero=>exact b8 h▸rfl
  |succ j=>exact(ih h).trans (aB (fun k=>some (lL k r)) (Nat.succ_add_eq_add_succ i j))
theorem nY: ∀{rs:List Rw}{i:Nat},(g5 i rs)[rs.length]? =some hV:=by
 intro l_
 induction l_ with
 |nil=>intro i;exact rfl
 |cons r rs ih=>intro i;exact ih (i:=i+1)
noncomputable abbrev dz(rs:List Rw):List MV:=(g5 0 rs).map ez.val
theorem fy{rs:List Rw}:(dz rs).length=rs.length+1:=by exact(ai ..).trans (kB)
theorem Ck{rs:List Rw}{j:Nat}{r:Rw}(h:rs[j]? =some r):(dz rs)[j]? =some (lL j r).val:=by
 refine(bA).trans (ae (qc h) (ae (aT ..) ?_));rfl
theorem zU{rs:List Rw}:(dz rs)[rs.length]? =some hV.val:=by rw[bA,nY];rfl
theorem ye{P:Params}{count:Nat}{m l:Bool}{rs:List Rw}(gh:rs.length=count)(h1:3≤count)(h2:count≤7)(BA: ∀r∈rs,Rw.ok (count:Int) m l r)(f g:Rw→List Int)(d e:List Int)(F G:ez→List Int)
 (hF: ∀i r,F (lL i r)=f r) (Zj:F hV=d) (hG: ∀i r,G (lL i r)=g r) (Zg:G hV=e):
 rX (I7 P) (dz rs) ((g5 0 rs).map fun x=>il (F x)) ((g5 0 rs).map fun x=>il (G x)) (rs.length+1) (iw rs) (qr rs f d) (qr rs g e):=by
 have MJ: ∀i,i≤rs.length→ ∀k,I7 P (dz rs) (i:Int) k=k (nl (iw rs i)):=by
  intro i hi k
  by_cases q:i<rs.length
  .have hr:rs[i]? =some rs[i]:=aq q
   refine(ER (by rw[fy,gh];exact af (Nat.succ_le_succ h2) (by decide)) (Ck hr) (g:=rs[i].goal) rfl ..).trans (ae fy ?_)
   delta oN iw
   refine ae (az (by lia)) (ae hr ?_)
   refine(?_:k ((if rs[i].goal<0 then[(i:Int)+1]else[(i:Int)+1,rs[i].goal]).map .int)=k (nl (if rs[i].goal<0 then[i+1]else[i+1,rs[i].goal.toNat])))
   by_cases z:rs[i].goal<0
   .exact ae (aF z) (ae (aF z) rfl)
   .refine ae (az z) (ae (az z) ?_)
    refine(?_:k [MV.int ((i:Int)+1),.int rs[i].goal]=k [MV.int ((i+1:Nat):Int),.int (rs[i].goal.toNat:Int)])
    rw[show((rs[i].goal.toNat:Nat):Int)=rs[i].goal by exact Xs ‹_›];rfl
  .have e:i=rs.length:=by exact IM ‹_› ‹_›
   subst e
   refine(ER (by rw[fy,gh];exact af (Nat.succ_le_succ h2) (by decide)) zU (g:= -1) rfl ..).trans (ae fy ?_)
   delta oN iw
   refine ae (aF (by lia)) (ae (bY (bn _)) ?_);rfl
 refine⟨fy,by exact(ai ..).trans (kB),by exact(ai ..).trans (kB),by lia,by exact Nat.succ_pos _,fun i hi=>MJ i (by exact bf ‹_›),fun i hi=>?_,fun i hi=>?_,fun i hi=>?_⟩
 .by_cases q:i<rs.length
  .have hr:rs[i]? =some rs[i]:=aq q
   delta iw
   refine ae hr ?_
   refine(?_:(if rs[i].goal<0 then[i+1]else[i+1,rs[i].goal.toNat])=[]∨_)
   by_cases z:rs[i].goal<0
   .exact .inr (.inl ⟨i+1,by refine(?_:(if rs[i].goal<0 then[i+1]else[i+1,rs[i].goal.toNat])=_);exact aF z,by exact Nat.lt_succ_of_le ‹_›⟩)
   .have hb:iV rs[i]=true:=by
     induction w:iV rs[i]using ag with
     |true=>rfl
     |false=>rw[xW w]at z;lia
    have:=mI (BA _ (List.getElem_mem q)) hb
    exact .inr (.inr ⟨i+1,rs[i].goal.toNat,by refine(?_:(if rs[i].goal<0 then[i+1]else[i+1,rs[i].goal.toNat])=_);exact az z,by exact Nat.lt_succ_of_le ‹_›,by lia⟩)
  .left
   delta iw
   exact ae (bY (by exact cG ‹_›)) rfl
 .by_cases q:i<rs.length
  .have hr:rs[i]? =some rs[i]:=aq q
   refine(bA).trans (ae (qc hr) ?_)
   delta qr
   refine ae hr ?_
   refine(?_:some (il (F (lL (0+i) rs[i])))=_)
   exact ae (hF ..) rfl
  .have e:i=rs.length:=by lia
   subst e
   refine(bA).trans (ae nY ?_)
   delta qr
   refine ae (bY (bn _)) ?_
   refine(?_:some (il (F hV))=_)
   exact ae Zj rfl
 .by_cases q:i<rs.length
  .have hr:rs[i]? =some rs[i]:=aq q
   refine(bA).trans (ae (qc hr) ?_)
   delta qr
   refine ae hr ?_
   refine(?_:some (il (G (lL (0+i) rs[i])))=_)
   exact ae (hG ..) rfl
  .have e:i=rs.length:=by lia
   subst e
   refine(bA).trans (ae nY ?_)
   delta qr
   refine ae (bY (bn _)) ?_
   refine(?_:some (il (G hV))=_)
   rw[Zg]
theorem E9{P:Params}{count:Nat}{m l:Bool}{rs:List Rw}(gh:rs.length=count)(h1:3≤count)(h2:count≤7)(BA: ∀r∈rs,Rw.ok (count:Int) m l r):
 ∀k,vC P (.list (dz rs)) (.range 0 ((11:Nat):Int) 1) (.list ((g5 0 rs).map fun x=>il x.reads)) (.list ((g5 0 rs).map fun x=>il x.writes)) k=k (nl (jq rs)):=
 Bg (ye gh h1 h2 BA Rw.reads Rw.writes [0] [] ez.reads ez.writes (fun Y Y=>rfl) rfl (fun Y Y=>rfl) rfl) (by trivial) (by trivial)
theorem Lb{P:Params}{du:U4 (List MV)}{count:Int}{m l:Bool}{r:Rw}(h:Rw.ok count m l r):qt P du r.wr:=by
 have e0:qt P du []:=fun o r w rd lk g k=>by
  rw[show wG []=[] by decide];exact Jh P du o r w rd lk g k
 cases r with
 |st bV w one=>exact N4 h.1
 |GN bV w=>exact N4 h
 |Gs=>exact fun o r w rd lk g k=>PA P du o r w rd lk g k
 |_=>exact e0
theorem LB{count:Int}{m l:Bool}{r:Rw}(h:Rw.ok count m l r):r.rd.length≤1000:=by
 cases r with
 |ld bV w one=>
  have:=AC h.1
  refine ae (ai ..) (ae aG ?_)
  simp only[aA,cH,or_false]at this
  lia
 |wN jj bV one=>
  refine ae (ai ..) (ae aG ?_);trivial
 |_=>exact Nat.zero_le _
theorem uS: ∀{rs:List Rw}{i:Nat}{d:ez},d∈g5 i rs→(∃r∈rs,∃j,d=lL j r)∨d=hV:=by
 intro l_
 induction l_ with
 |nil=>intro i d h;exact .inr (cj.mp h)
 |cons r rs ih=>
  intro i d h
  rcases aA.mp h with rfl|h
  .exact .inl ⟨r,.head _,i,rfl⟩
  .rcases ih h with⟨r',h1,j,h2⟩|h
   .exact .inl ⟨r',.tail _ h1,j,h2⟩
   .exact .inr h
theorem sP: ∀{rs:List Rw}{i:Nat},(g5 i rs).any ez.fF=rs.any Rw.fF:=by
 intro l_
 induction l_ with
 |nil=>intro i;exact rfl
 |cons r rs ih=>intro i;rw[g5,bO,bO,ih];rfl
theorem E4{P:Params}{count:Nat}{m l:Bool}{rs:List Rw}(gh:rs.length=count)(h1:3≤count)(h2:count≤7)(BA: ∀r∈rs,Rw.ok (count:Int) m l r):
 ∀k,Nr P (.list (dz rs)) k=k (nl (gn rs)):=fun k=>
 cZ (T:=f9) (x:=nl (gn rs)) (o:=cB P 60 (bx [(S "_law_due",s4 f9 (vC P))] []) 671 [] false [.list (dz rs)]) (E3 (ds:=g5 0 rs) (by rw[kB];lia) (fun d hd=>by
  rcases uS hd with⟨r,hr,j,rfl⟩|rfl
  .exact LB (BA r hr)
  .exact Nat.zero_le _) (fun d hd=>by
  rcases uS hd with⟨r,hr,j,rfl⟩|rfl
  .exact Lb (BA r hr)
  .intro o r w rd lk g k
   refine(?_:ev 55 _ _ [(_,Slot.aw (lJ o r w rd (il []) lk g))] k=k true (il (wG [])) _)
   rw[show wG []=[] by decide];exact Jh P (vC P) o r w rd lk g k)
  (fun q=>by
    rw[sP]at q
    delta gn
    refine ae (aF q) (ae kB ?_)
    refine(?_:(List.replicate _ Kp).map _=_)
    exact List.map_replicate.trans rfl)
  (fun q=>by
    rw[sP]at q
    delta gn
    refine ae (az (by rw[q];exact fun h=>nomatch h)) ?_
    exact Bg (ye gh h1 h2 BA (fun r=>Av r.rd) (fun r=>wG r.wr) [] [] (fun d=>Av d.rd) (fun d=>wG d.wr) (fun Y Y=>rfl) rfl (fun Y Y=>rfl) (by rfl)) (by trivial) (by trivial))) k
theorem Ir{k:St→aH}(j i:Nat){l:List Stmt}:bF (m+1+j) cx (l.take (j+i)) st k=bF (m+1+j) cx (l.take j) st fun st=>bF (m+1) cx ((l.drop j).take i) st k:=by
 exact(eX j).trans (ae List.take_take (ae List.drop_take (ae (Nat.min_eq_left (by exact bN _ _)) (ae (Nat.add_sub_cancel_left ..) rfl))))
noncomputable abbrev fJ(P:Params):Cx:=mY P (GQ P) (Nf P) (vC P) (Nr P) (Nx P) (Nw P)
theorem lZ{r:Rw}:isNone (lL i r).o=kh r:=by induction r using Rw.casesOn<;>rfl
section
variable{P:Params}
theorem H4{k:List MV→aH}: ∀(rs:List Rw)(i:Nat){st:St}(_:st=[]∨ ∃old,st=[(.v (S "row"),.aw old)])(acc:List MV),∃us:List MV,us.isEmpty= !rs.any kh∧dS 55 (fJ P) (S "row") (tG P) ((g5 i rs).map ez.val) st acc k=k (acc++us):=by
 intro l_
 induction l_ with
 |nil=>
  intro i st hs acc
  refine⟨[],rfl,?_⟩
  refine ae (bG ..) ?_
  have fin: ∀st acc,dS 55 (fJ P) (S "row") (tG P) [] st acc k=k acc:=fun st acc=>eO (by kernel_rfl)
  rcases hs with rfl|⟨old,rfl⟩
  .exact(DT P _ _ _ _ _ _ _ _ _ _ _ _ _ _ _ k).trans (fin [(.v (S "row"),.aw hV.val)] acc)
  .exact(DS P _ _ _ _ _ _ _ _ _ _ _ _ _ _ _ _ k).trans (fin [(.v (S "row"),.aw hV.val)] acc)
 |cons r rs ih=>
  intro i st hs acc
  induction hl:kh r using ag with
  |true=>
   obtain⟨us,h1,h2⟩:=ih (st:=[(.v (S "row"),.aw (lL i r).val)]) (i+1) (.inr ⟨_,rfl⟩) (acc++[(lL i r).val])
   refine⟨(lL i r).val::us,by refine ae bO (ae hl ?_);rfl,?_⟩
   rw[bE]at h2
   rcases hs with rfl|⟨old,rfl⟩
   .refine(DT P _ _ _ _ _ _ _ _ _ _ _ _ _ _ _ k).trans ?_
    refine ae lZ (ae hl ?_);exact h2
   .refine(DS P _ _ _ _ _ _ _ _ _ _ _ _ _ _ _ _ k).trans ?_
    refine ae lZ (ae hl ?_);exact h2
  |false=>
   obtain⟨us,h1,h2⟩:=ih (st:=[(.v (S "row"),.aw (lL i r).val)]) (i+1) (.inr ⟨_,rfl⟩) acc
   refine⟨us,by refine ae bO (ae hl ?_);exact h1,?_⟩
   rcases hs with rfl|⟨old,rfl⟩
   .refine(DT P _ _ _ _ _ _ _ _ _ _ _ _ _ _ _ k).trans ?_
    refine ae lZ (ae hl ?_);exact h2
   .refine(DS P _ _ _ _ _ _ _ _ _ _ _ _ _ _ _ _ k).trans ?_
    refine ae lZ (ae hl ?_);exact h2
theorem Em{x p ps rws:MV}{b n0 i:Nat}{fs:List MV}(hf:fs.length=b+i)(hz:fs.length≤1000)(r:Rw)(k:St→aH):bF 52 (fJ P) (uo P) (lG x p (.aw ps) (n0:Int) (.own (.list fs)) (yZ rws (lL i r).val)) k=
 k (lG x p (.aw ps) (n0:Int) (.own (.list (fs++[(iH b n0 i r).t]))) (yZ rws (lL i r).val)):=by
 refine(Jw P _ _ _ _ _ _ _ _ _ _ _ _ _ _ _ _ _ _ _ k).trans ?_
 refine ae lZ (ae (bo (by exact af ‹_› (aa rfl))) (ae hf ?_))
 induction r using Rw.casesOn<;>rfl
theorem Qb{x p ps rws:MV}{b n0:Nat}{K:St→aH}: ∀(rs:List Rw)(i:Nat){fs:List MV}(_:fs.length=b+i)(_:fs.length+rs.length≤900){st:St}(_:st=lG x p (.aw ps) (n0:Int) (.own (.list fs)) (RG rws)∨ ∃w,st=lG x p (.aw ps) (n0:Int) (.own (.list fs)) (yZ rws w)),
 ∃w,dN (bF 52 (fJ P) (uo P)) (S "row") ((g5 i rs).map ez.val) st K=K (lG x p (.aw ps) (n0:Int) (.own (.list (fs++(eB b n0 i rs).map Od.t))) (yZ rws w)):=by
 intro l_
 induction l_ with
 |nil=>
  intro i fs hf hz st gE
  refine⟨hV.val,?_⟩
  have step: ∀k,bF 52 (fJ P) (uo P) (lG x p (.aw ps) (n0:Int) (.own (.list fs)) (yZ rws hV.val)) k=k (lG x p (.aw ps) (n0:Int) (.own (.list (fs++[ff 149 0 0 0 0]))) (yZ rws hV.val)):=fun k=>by
   refine(Jw P _ _ _ _ _ _ _ _ _ _ _ _ _ _ _ _ _ _ _ k).trans ?_
   refine ae (bo (by exact af ‹_› (aa rfl))) ?_;rfl
  rcases gE with rfl|⟨w,rfl⟩
  .exact step _
  .exact step _
 |cons r rs ih=>
  intro i fs hf hz st gE
  rw[bw]at hz
  obtain⟨w,h⟩:=ih (fs:=fs++[(iH b n0 i r).t]) (st:=lG x p (.aw ps) (n0:Int) (.own (.list (fs++[(iH b n0 i r).t]))) (yZ rws (lL i r).val)) (i+1) (by refine b0.trans (ae hf ?_);rfl) (by refine ae b0 ?_;simp only[bw,List.length_nil];lia) (.inr ⟨_,rfl⟩)
  refine⟨w,?_⟩
  rw[bE]at h
  rcases gE with rfl|⟨w0,rfl⟩
  .exact(Em hf (by lia) r _).trans h
  .exact(Em hf (by lia) r _).trans h
theorem FA{k:List MV→aH}: ∀(ds:List ez){st:St}(_:st=[]∨ ∃old,st=[(.v (S "row"),.aw old)])(acc:List MV),dS 46 (fJ P) (S "row") (MX P 2) (ds.map ez.val) st acc k=k (acc++ds.map fun d=>il d.reads):=by
 intro l_
 induction l_ with
 |nil=>intro st hs acc;refine ae dw ((eO (by kernel_rfl)).trans ?_);show _=k (acc++[]);exact ae (bG ..) rfl
 |cons d ds ih=>
  intro st hs acc
  refine ae bv ((fA (by kernel_rfl) (by kernel_rfl)).trans (ae (nL hs) ?_))
  refine(Jv P _ _ _ _ _ _ 2 (.inl rfl) _ _ _ _ _ _ _ _).trans ?_
  refine ae (aF rfl) ((ih (.inr ⟨_,rfl⟩) ..).trans (ae (bE ..) ?_));rfl
theorem Cr{k:List MV→aH}: ∀(ds:List ez){st:St}(_:st=[]∨ ∃old,st=[(.v (S "row"),.aw old)])(acc:List MV),dS 46 (fJ P) (S "row") (MX P 3) (ds.map ez.val) st acc k=k (acc++ds.map fun d=>il d.writes):=by
 intro l_
 induction l_ with
 |nil=>intro st hs acc;refine ae dw ((eO (by kernel_rfl)).trans ?_);show _=k (acc++[]);exact ae (bG ..) rfl
 |cons d ds ih=>
  intro st hs acc
  refine ae bv ((fA (by kernel_rfl) (by kernel_rfl)).trans (ae (nL hs) ?_))
  refine(Jv P _ _ _ _ _ _ 3 (.inr rfl) _ _ _ _ _ _ _ _).trans ?_
  refine ae (az (by decide)) ((ih (.inr ⟨_,rfl⟩) ..).trans (ae (bE ..) ?_));rfl
theorem sN{rs:List Rw}:(jq rs).length=rs.length+1:=dC _
theorem sM{rs:List Rw}:(gn rs).length=rs.length+1:=by
 unfold gn
 split
 .exact cM ..
 .exact dC _
theorem v8{count:Nat}{m l:Bool}{rs:List Rw}(gh:rs.length=count)(h1:3≤count)(h2:count≤7)(BA: ∀r∈rs,Rw.ok (count:Int) m l r){x p w T:MV}{ps fs:List MV}{bg:Int}{rg sg:List Nat}(hr:rg.length≤900)(hs:sg.length≤900)(k:St→aH):
 bF 51 (fJ P) (Ha P) (lG x p (.aw (.list ps)) bg (.aw (.list fs)) (Df (.list (dz rs)) w T (.own (.list (nl rg))) (.own (.list (nl sg))))) k=
 k (lG x p (.aw (.list ps)) bg (.aw (.list fs)) (Df (.list (dz rs)) w T (.own (.list (nl (rg++jq rs)))) (.own (.list (nl (sg++gn rs)))))):=by
 have z:aQ (dz rs).length=true:=bo (by refine ae fy ?_;lia)
 refine(Qd P _ _ _ _ _ _ _ _ _ _ _ _ _ _ _ _ k).trans ?_
 refine ae z ((ao ..).trans ((FA _ (.inl rfl) ..).trans ((ao ..).trans ((Cr _ (.inl rfl) ..).trans (ae (dd ..) (ae (dd ..) ?_))))))
 refine(E9 gh h1 h2 BA _).trans ?_
 refine ae (ai ..) (ae (ai ..) (ae (bo (by rw[sN];lia)) ((ao ..).trans ?_)))
 refine(E4 gh h1 h2 BA _).trans ?_
 refine ae (ai ..) (ae (ai ..) (ae (bo (by rw[sM];lia)) ((ao ..).trans ?_)))
 exact ae (show nl (rg++jq rs)=nl rg++nl (jq rs)from List.map_append ..) (ae (show nl (sg++gn rs)=nl sg++nl (gn rs)from List.map_append ..) rfl)
noncomputable def J1(is:List Int)(T:MV)(rg sg:List Nat)(st:St):Prop:= ∃p ps bg fs rws w,st=lG (il is) p (.aw ps) bg (.aw fs) (Df rws w T (.own (.list (nl rg))) (.own (.list (nl sg))))
end
theorem iY{k:St→aH}(o j i:Nat){l:List Stmt}:bF (m+1+j) cx ((l.drop o).take (j+i)) st k=bF (m+1+j) cx ((l.drop o).take j) st fun st=>bF (m+1) cx ((l.drop (o+j)).take i) st k:=by
 exact(Ir ..).trans (ae List.drop_drop rfl)
theorem jg{B:St→(St→aH)→aH}{K:St→aH}(h:dK (st.get (.v x))=true):dN B x (t::ts) st K=B (st.put (.v x) (.aw t)) fun st=>dN B x ts st K:=by
 refine(?_:(bif dK (st.get (.v x))then _ else none)=_)
 exact ae h rfl
section
variable{P:Params}
theorem xJ{rs:List Rw}:io 0 rs++[oT]=dz rs:=(CF (rs:=rs) (i:=0)).symm
theorem sr{x p ps:MV}{b n0:Nat}{fs:List MV}{rs:List Rw}{K:St→aH}(hf:fs.length=b)(hz:fs.length+rs.length≤900)(gE:st=lG x p (.aw ps) (n0:Int) (.own (.list fs)) (RG (.list (dz rs)))∨ ∃w,st=lG x p (.aw ps) (n0:Int) (.own (.list fs)) (yZ (.list (dz rs)) w)):
 ∃w,bF 54 (fJ P) (BI P) st K=K (lG x p (.aw ps) (n0:Int) (.own (.list (fs++(eB b n0 0 rs).map Od.t))) (yZ (.list (dz rs)) w)):=by
 have z:aQ (dz rs).length=true:=bo (by refine ae fy ?_;lia)
 obtain⟨w,h⟩:=Qb (P:=P) (x:=x) (p:=p) (ps:=ps) (rws:= .list (dz rs)) (b:=b) (n0:=n0) (K:=K) rs 0 (fs:=fs) (by exact hf.trans rfl) hz gE
 refine⟨w,?_⟩
 rcases gE with rfl|⟨w0,rfl⟩
 .refine(Qf P _ _ _ _ _ _ _ _ _ _ _ _ K).trans ?_
  exact ae z ((ao ..).trans h)
 .refine(Qe P _ _ _ _ _ _ _ _ _ _ _ _ _ K).trans ?_
  exact ae z ((ao ..).trans h)
theorem LW(is:List Int)(Sa:is.length≤63)(k:St→aH): ∃r0 tl l0 l1,lu r0 tl l0 l1∧ ∃st,J1 is (ax (d8 r0 tl) (r0.length+1)) (lx (d8 r0 tl)) (lH (d8 r0 tl) (r0.length+1)) st∧
 bF 60 (fJ P) ((bW P).take 8) [(.v (S "script"),.aw (il is))] k=k st:=by
 have T1:fb 0 (pJ ((is.take 40).map .int) 0 0):=⟨is.take 40,0,0,rfl,by refine ae List.length_take ?_;exact Nat.min_le_left ..,by exact Int.natCast_nonneg _,by exact Int.natCast_nonneg _,by exact Int.natCast_nonneg _⟩
 obtain⟨r0,l0,t,q1,q2,q3,q4,q5⟩:=Ej (P:=P) (main:=true) T1 (by trivial)
 have z0:aQ (dz r0).length=true:=bo (by exact ae fy (aX ‹_› (aa rfl)))
 have start:bF 60 (fJ P) ((bW P).take 8) [(.v (S "script"),.aw (il is))] k=dS 55 (fJ P) (S "row") (tG P) (dz r0) [] [] fun us=>eN .NotEq (.list us) (.list []) fun b=>bif b then
  (GQ P t false fun r t=>bF 57 (fJ P) (((bW P).drop 3).take 5) [(.v (S "script"),.aw (il is)),(.v (S "pen"),.own t),(.v (S "parts"),.own (.list [.list (dz r0),r]))] k)else bF 57 (fJ P) (((bW P).drop 3).take 5) [(.v (S "script"),.aw (il is)),(.v (S "pen"),.own t),(.v (S "parts"),.own (.list [.list (dz r0)]))] k:=by
  refine(?_:bF (58+1+1) (fJ P) (((bW P).drop 0).take (1+7)) _ k=_)
  refine(iY 0 1 7).trans ?_
  refine(Uh P _ _ _ _ _ _ (is.map .int) _).trans ?_
  refine ae (ints_map ..) ?_
  refine(?_:(bif aQ is.length then _ else none)=_)
  refine ae (bo (by exact af ‹_› (aa rfl))) ((ao ..).trans ?_)
  refine(?_:bF (57+1+1) (fJ P) (((bW P).drop 1).take (1+6)) _ k=_)
  refine(iY 1 1 6).trans ?_
  refine(Ug P _ _ _ _ _ _ _ _ _).trans ?_
  refine(q5 ..).trans (ae xJ ?_)
  refine(?_:bF (56+1+1) (fJ P) (((bW P).drop 2).take (1+5)) _ k=_)
  refine(iY 2 1 5).trans ?_
  refine(Uf P _ _ _ _ _ _ _ _ _ _).trans ?_
  exact ae z0 ((ao ..))
 obtain⟨us,e1,e2⟩:=H4 (P:=P) (k:=fun us=>eN .NotEq (.list us) (.list []) fun b=>bif b then
  (GQ P t false fun r t=>bF 57 (fJ P) (((bW P).drop 3).take 5) [(.v (S "script"),.aw (il is)),(.v (S "pen"),.own t),(.v (S "parts"),.own (.list [.list (dz r0),r]))] k)else bF 57 (fJ P) (((bW P).drop 3).take 5) [(.v (S "script"),.aw (il is)),(.v (S "pen"),.own t),(.v (S "parts"),.own (.list [.list (dz r0)]))] k) r0 0 (.inl rfl) []
 have pR:=start.trans e2
 rw[dd,zz,e1,Bool.not_not]at pR
 induction hl:r0.any kh using ag with
 |false=>
  have H:lu r0 none l0 false:=⟨q1,q2,q3,(fun Y r hr=>by
   induction z:kh r using ag with
   |false=>rfl
   |true=>have:=cg.mpr ⟨r,hr,z⟩;rw[hl]at this;exact ew this),(fun r1 h=>nomatch h)⟩
  rw[hl,bH]at pR
  have X:=DP (P:=P) H
  obtain⟨w,f1⟩:=sr (P:=P) (x:=il is) (p:=t) (ps:= .list [.list (dz r0)]) (b:=0) (n0:=r0.length+1) (fs:=[]) (rs:=r0) (K:=fun st=>bF 55 (fJ P) (((bW P).drop 5).take 3) st k) rfl (by simp;exact af ‹_› (aa rfl)) (.inl rfl)
  refine⟨r0,none,l0,false,H,lG (il is) t (.aw (.list [.list (dz r0)])) ((r0.length+1:Nat):Int) (.aw (.list (cW (d8 r0 none)))) (Df (.list (dz r0)) w (ax (d8 r0 none) (r0.length+1)) (.own (.list (nl (lx (d8 r0 none))))) (.own (.list (nl (lH (d8 r0 none) (r0.length+1)))))),⟨_,_,_,_,_,_,rfl⟩,pR.trans ?_⟩
  refine(?_:bF (55+1+1) (fJ P) (((bW P).drop 3).take (1+4)) _ k=_)
  refine(iY 3 1 4).trans ?_
  refine(Qh P _ _ _ _ _ _ _ _ _ _).trans ?_
  refine ae fy ?_
  refine(?_:bF (54+1+1) (fJ P) (((bW P).drop 4).take (1+3)) _ k=_)
  refine(iY 4 1 3).trans ?_
  refine(Ob P _ _ _ _ _ _ _ _ _ _ _ _).trans ?_
  refine ae (show aQ [MV.list (dz r0)].length=true from rfl) ((ao ..).trans ((jg rfl).trans ?_))
  refine f1.trans ?_
  refine(?_:bF (52+1+2) (fJ P) (((bW P).drop 5).take (2+1)) _ k=_)
  refine(iY 5 2 1).trans ?_
  refine(Oa P _ _ _ _ _ _ _ _ _ _ _ _ _ _).trans ?_
  have tr:[]++(eB 0 (r0.length+1) 0 r0).map Od.t=cW (d8 r0 none):=by delta d8 Np;exact ae (bG ..) rfl
  refine ae tr ?_
  refine(JW X _).trans ?_
  refine(N9 P _ _ _ _ _ _ _ _ _ _ _ _ _ _ _ _ k).trans ?_
  refine ae (show aQ [MV.list (dz r0)].length=true from rfl) ((ao ..).trans ((jg rfl).trans ?_))
  refine(v8 (P:=P) (rs:=r0) rfl q1 q2 q3 (rg:=[]) (sg:=[]) (by trivial) (by trivial) _).trans ?_
  exact ae (Jn H) (ae (Pg H) rfl)
 |true=>
  rw[hl,ao]at pR
  obtain⟨r1,l1,t1,p1,p2,p3,p4,p5⟩:=Ej (P:=P) (main:=false) q4 (by trivial)
  rw[p5,xJ]at pR
  have H:lu r0 (some r1) l0 l1:=⟨q1,q2,q3,(fun h=>nomatch h),fun r h=>by
   obtain rfl:=b8 h
   obtain⟨r,hr,z⟩:=cg.mp hl
   exact⟨⟨r,hr,z⟩,p1,p2,p3⟩⟩
  have X:=DP (P:=P) H
  have Oi:([]++(eB 0 (r0.length+1) 0 r0).map Od.t).length=r0.length+1:=by exact ae (dd ..) ((ai ..).trans (eK))
  have f2:=fun w=>sr (P:=P) (x:=il is) (p:=t1) (ps:= .list [.list (dz r0),.list (dz r1)]) (b:=r0.length+1) (n0:=r0.length+1) (fs:=[]++(eB 0 (r0.length+1) 0 r0).map Od.t) (rs:=r1) (K:=fun st=>bF 55 (fJ P) (((bW P).drop 5).take 3) st k) Oi (by refine ae Oi ?_;lia) (st:=lG (il is) t1 (.aw (.list [.list (dz r0),.list (dz r1)])) ((r0.length+1:Nat):Int) (.own (.list ([]++(eB 0 (r0.length+1) 0 r0).map Od.t))) (yZ (.list (dz r1)) w)) (.inr ⟨w,rfl⟩)
  obtain⟨w,f1⟩:=sr (P:=P) (x:=il is) (p:=t1) (ps:= .list [.list (dz r0),.list (dz r1)]) (b:=0) (n0:=r0.length+1) (fs:=[]) (rs:=r0) (K:=fun st=>dN (bF 54 (fJ P) (BI P)) (S "rows") [.list (dz r1)] st fun st=>bF 55 (fJ P) (((bW P).drop 5).take 3) st k) rfl (by simp;exact af ‹_› (aa rfl)) (.inl rfl)
  obtain⟨w2,f2⟩:=f2 w
  refine⟨r0,some r1,l0,l1,H,lG (il is) t1 (.aw (.list [.list (dz r0),.list (dz r1)])) ((r0.length+1:Nat):Int) (.aw (.list (cW (d8 r0 (some r1))))) (Df (.list (dz r1)) w2 (ax (d8 r0 (some r1)) (r0.length+1)) (.own (.list (nl (lx (d8 r0 (some r1)))))) (.own (.list (nl (lH (d8 r0 (some r1)) (r0.length+1)))))),⟨_,_,_,_,_,_,rfl⟩,pR.trans ?_⟩
  refine(?_:bF (55+1+1) (fJ P) (((bW P).drop 3).take (1+4)) _ k=_)
  refine(iY 3 1 4).trans ?_
  refine(Qg P _ _ _ _ _ _ _ _ _ _ _).trans ?_
  refine ae fy ?_
  refine(?_:bF (54+1+1) (fJ P) (((bW P).drop 4).take (1+3)) _ k=_)
  refine(iY 4 1 3).trans ?_
  refine(Ob P _ _ _ _ _ _ _ _ _ _ _ _).trans ?_
  refine ae (show aQ [MV.list (dz r0),.list (dz r1)].length=true from rfl) ((ao ..).trans ((jg rfl).trans ?_))
  refine f1.trans ?_
  refine(jg rfl).trans ?_
  refine f2.trans ?_
  refine(?_:bF (52+1+2) (fJ P) (((bW P).drop 5).take (2+1)) _ k=_)
  refine(iY 5 2 1).trans ?_
  refine(Oa P _ _ _ _ _ _ _ _ _ _ _ _ _ _).trans ?_
  have tr:([]++(eB 0 (r0.length+1) 0 r0).map Od.t)++(eB (r0.length+1) (r0.length+1) 0 r1).map Od.t=cW (d8 r0 (some r1)):=by delta d8 Np;rw[dd,←List.map_append]
  refine ae tr ?_
  refine(JW X _).trans ?_
  refine(N9 P _ _ _ _ _ _ _ _ _ _ _ _ _ _ _ _ k).trans ?_
  refine ae (show aQ [MV.list (dz r0),.list (dz r1)].length=true from rfl) ((ao ..).trans ((jg rfl).trans ?_))
  refine(v8 (P:=P) (rs:=r0) rfl q1 q2 q3 (rg:=[]) (sg:=[]) (by trivial) (by trivial) _).trans ?_
  refine(jg rfl).trans ?_
  refine(v8 (P:=P) (rs:=r1) rfl p1 p2 p3 (rg:=[]++jq r0) (sg:=[]++gn r0) (by exact ae (dd ..) (ae sN (aX ‹_› (aa rfl)))) (by exact ae (dd ..) (ae sM (aX ‹_› (aa rfl)))) _).trans ?_
  exact ae (Jm H) (ae (Pf H) rfl)
end
noncomputable def eL(P:Params):Expr:=fL (vy (bW P) 9)
noncomputable def RQ(P:Params):Option Expr:=kj (eL P) (fun l Y Y=>some l) none
section
variable(P:Params)(pa:Nh)(cp:U1 MV)(du:U4 (List MV))(sl:U1 (List MV))(mo:U1 Int)(ni:U1 (List MV))
noncomputable abbrev BE(x p ps fs rws w T:MV)(bg:Int)(rg sg:List MV):St:=[(.v (S "script"),.aw x),(.v (S "pen"),.aw p),(.v (S "parts"),.aw ps),(.v (S "begin"),.aw (.int bg)),(.v (S "found"),.aw fs),(.v (S "rows"),.aw rws),(.v (S "row"),.aw w),(.v (S "program"),.aw T),(.v (S "registers"),.aw (.list rg)),(.v (S "slots"),.aw (.list sg))]
theorem Ue(x p ps fs rws w T:MV)(bg:Int)(rg sg:List MV):ev 60 (mY P pa cp du sl mo ni) (eL P) (BE x p ps fs rws w T bg rg sg) (fun Y t Y=>some (t,none))=
 bif aQ rg.length then dS 58 (mY P pa cp du sl mo ni) (S "mask") (RQ P) rg [] [] fun us=>eN .Eq (.list us) (.list rg) fun b=>some (.bool b,none)else none:=by kernel_rfl
theorem Qc(v:MV)(k:KT):ev 58 { mY P pa cp du sl mo ni with sc:=tH (RQ P)} (fL (gu (RQ P))) [(.v (S "mask"),.aw v)] k=ni v fun l=>mo (.list l) fun m=>k false (.int m) [(.v (S "mask"),.aw v)]:=by kernel_rfl
theorem Ju(x p ps fs rws w T:MV)(bg:Int)(rg sg:List MV)(k:KT)(pos:Pos):ev 60 (mY P pa cp du sl mo ni) (.Name (S "program") pos) (BE x p ps fs rws w T bg rg sg) k=k false T (BE x p ps fs rws w T bg rg sg):=by kernel_rfl
theorem Qa(x p ps fs rws w T:MV)(bg:Int)(rg sg:List MV)(k:KT)(pos:Pos):ev 60 (mY P pa cp du sl mo ni) (.Name (S "registers") pos) (BE x p ps fs rws w T bg rg sg) k=k false (.list rg) (BE x p ps fs rws w T bg rg sg):=by kernel_rfl
theorem P9(x p ps fs rws w T:MV)(bg:Int)(rg sg:List MV)(k:KT)(pos:Pos):ev 60 (mY P pa cp du sl mo ni) (.Name (S "slots") pos) (BE x p ps fs rws w T bg rg sg) k=k false (.list sg) (BE x p ps fs rws w T bg rg sg):=by kernel_rfl
end
section
variable{P:Params}
theorem FC{k:List MV→aH}: ∀(l:List Nat)(_: ∀m∈l,m<2 ^ 64){st:St}(_:st=[]∨ ∃old,st=[(.v (S "mask"),.aw old)])(acc:List MV),dS 58 (fJ P) (S "mask") (RQ P) (nl l) st acc k=k (acc++nl l):=by
 intro l_
 induction l_ with
 |nil=>intro Y st hs acc;refine ae (show nl []=[]from rfl) ((eO (by kernel_rfl)).trans ?_);refine(?_:_=k (acc++[]));exact ae (bG ..) rfl
 |cons m l ih=>
  intro h st hs acc
  refine ae (show nl (m::l)= .int (m:Int)::nl l from rfl) ((fA (by kernel_rfl) (by kernel_rfl)).trans (ae (nL hs) ?_))
  refine(Qc P _ _ _ _ _ _ _ _).trans ?_
  obtain⟨n,n1,n2,n3⟩:=PZ (P:=P) (h m (.head _))
  have hz:((List.range n).filter m.testBit).length≤1000:=by
   have:=List.length_filter_le m.testBit (List.range n)
   rw[aG]at this;lia
  rw[n3,P0 (fun i hi=>by have:=db.mp (List.mem_filter.mp hi).1;exact af ‹_› ‹_›) hz,zT n2,ih (fun m hm=>h m (.tail _ hm)) (.inr ⟨_,rfl⟩),bE];rfl
theorem yc(l:List Nat):NN (nl l) (nl l)=some true:=by
 induction l using aO with
 |nil=>rfl
 |cons m l=>
  have e:ints? (nl (m::l))=some ((m::l).map fun m:Nat=>(m:Int)):=by
   rw[show nl (m::l)=((m::l).map fun m:Nat=>(m:Int)).map MV.int by rw[List.map_map];rfl,ints_map]
  refine(?_:((ints? (nl (m::l))).bind fun i=>(ints? (nl (m::l))).map fun j=>decide (i=j))=_)
  refine ae e ?_
  show some (decide _)=_
  exact ae (aW rfl) rfl
theorem LV{x p ps fs rws w T:MV}{bg:Int}{rg sg:List Nat}(hr: ∀m∈rg,m<2 ^ 64)(hl:rg.length≤1000):ev 60 (fJ P) (eL P) (BE x p ps fs rws w T bg (nl rg) (nl sg)) (fun Y t Y=>some (t,none))=some (.bool true,none):=by
 refine(Ue P _ _ _ _ _ _ _ _ _ _ _ _ _ _ _ _).trans ?_
 refine ae (ai ..) (ae (bo (by exact af ‹_› (aa rfl))) ((ao ..).trans ((FC rg hr (.inl rfl) ..).trans (ae (dd ..) ?_))))
 refine(?_:((NN (nl rg) (nl rg)).bind fun b=>some (MV.bool b,none))=_)
 exact ae (yc ..) rfl
theorem HG{r0:List Rw}{tl:Option (List Rw)}{l0 l1:Bool}(H:lu r0 tl l0 l1): ∀m∈lx (d8 r0 tl),m<2 ^ 64:=by
 have b: ∀rs,∀m∈jq rs,m<2 ^ 64:=fun rs m hm=>by
  have:=(v9 (B:=11) (rs:=rs) _).2 m hm
  have:(2:Nat) ^ 11≤2 ^ 64:=by decide
  exact af ‹_› ‹_›
 induction tl using ab with
 |none=>exact ae (Jn H) (b r0)
 |some r1=>
  refine ae (Jm H) ?_
  intro m hm
  rcases List.mem_append.mp hm with h|h
  .exact b r0 m h
  .exact b r1 m h
end
inductive VK(l:List Stmt)(e:Expr):Prop where
 |mk (p1 p2 p3 p4 p5 q1 q2 q3 q4 q5 pf pg ph:Pos) (tb:List Stmt) (h:l=[.If (.BoolOp .Or [.Compare (.Call (.Name (S "live_registers") p1) [.Name (S "program") p2] [] p3) [.NotEq] [.Name (S "registers") p4] p5,.Compare (.Call (.Name (S "live_slots") q1) [.Name (S "program") q2] [] q3) [.NotEq] [.Name (S "slots") q4] q5] pf) tb [] pg,.Return (some e) ph])
noncomputable def Wx{β:Type}(b:List Stmt)(d:β)(k:Expr→List Stmt→β):β:=atS b 0 d fun s=>if h:s.ctorIdx=12 then Stmt.If.elim (motive_2:=fun Y=>β) s h (fun t b Y Y=>k t b)else d
noncomputable abbrev GR:Expr:= .Constant .none 0 default
noncomputable def Wv(P:Params):Expr:=Wx ((bW P).drop 8) GR fun t Y=>t
noncomputable def G9(P:Params)(i:Nat):Expr:=v5 (Wv P) (fun Y es=>es[i]?.getD GR) GR
noncomputable def G8(P:Params)(i:Nat):Expr:=kj (G9 P i) (fun l Y Y=>l) GR
noncomputable def Oc(P:Params)(i:Nat):Expr:=kj (G9 P i) (fun Y Y rs=>rs.headD GR) GR
noncomputable def Oe(P:Params)(i:Nat):Expr:=oC (G8 P i) (fun f Y Y=>f) GR
noncomputable def Of(P:Params)(i:Nat):Expr:=oC (G8 P i) (fun Y as Y=>as.headD GR) GR
theorem XS(P:Params):VK ((bW P).drop 8) (eL P):=
 .mk (Oe P 0).pos (Of P 0).pos (G8 P 0).pos (Oc P 0).pos (G9 P 0).pos (Oe P 1).pos (Of P 1).pos (G8 P 1).pos (Oc P 1).pos (G9 P 1).pos (Wv P).pos (GH ((bW P).drop 8)).pos (GH ((bW P).drop 9)).pos (Wx ((bW P).drop 8) [] fun Y b=>b) (by kernel_rfl)
section
theorem SR.live(S:SR D F W env none st rv s.heap)(vn: ∀k sl,st.get k=some sl→ ∃t,sl= .aw t){P:Addr}(Dl: ¬W P)(rj: ∀p∈env.cells,W p.2){F':FH}{h':Heap}(le:dG F F')(fz:dG F' h'.get?)
 (new: ∀b o,F' b=some o→F b=some o∨s.heap.get? b=none) (keep: ∀b o,b≠P→s.heap.get? b=some o→h'.get? b=some o):SR D F' W env none st rv h':=by
 have Tr:env.locals≠P:=fun e=>Dl (by exact ft e S.pw.1)
 have xf: ∀b o,s.heap.get? b=some o→W b→h'.get? b=some o:=fun b o e w=>keep b o (fun z=>Dl (z▸w)) e
 have xr: ∀a v,W a→s.heap.IsCell a v→h'.IsCell a v:=by rintro a v w ⟨o,e,d⟩;exact⟨o,xf a o e w,d⟩
 have Nu: ∀mm,s.heap.Ns env.locals mm→h'.Ns env.locals mm:=fun mm x=>x.extBut (fun b o hb e=>keep b o hb e) Tr
 refine⟨fz,S.base.trans le,fun b w=>?_,fun b w=>?_,fun k sl e=>?_,fun k sl e hh=>?_,fun k k' s1 s2 a e1 e2 m1=>?_,fun x v e=>?_,fun x v e=>(fun i C d q=>nomatch q),(fun i C d q=>nomatch q),⟨S.pw.1,fun p hp=> .inl (rj p hp)⟩,⟨S.ma.1,fun i C d q=>nomatch q⟩,(fun i C d q=>nomatch q),?_,fun p hp=>?_⟩
 .induction z:F' b using ab with
  |none=>rfl
  |some o=>
   obtain⟨o',e⟩:=S.wx b w
   rcases new b o z with q|q
   .exact fU (S.wf b w) q
   .exact Sn (e.symm.trans q)
 .obtain⟨o,e⟩:=S.wx b w;exact⟨o,xf b o e w⟩
 .obtain⟨v,h1,h2⟩:=S.sl k sl e
  obtain⟨t,rfl⟩:=vn k sl e
  exact⟨v,h1,VR.mono le h2⟩
 .obtain⟨t,rfl⟩:=vn k sl e;exact ew hh
 .obtain⟨t,rfl⟩:=vn k s1 e1;exact ew m1
 .obtain⟨q1,q2⟩:=S.As x v e
  refine⟨fun z=>?_,fun z=>?_⟩
  .obtain⟨mm,h1,h2⟩:=q1 z;exact⟨mm,Nu mm h1,h2⟩
  .obtain⟨a,h1,h2⟩:=q2 z;exact⟨a,h1,xr a _ (rj _ (mem_lookup h1)) h2⟩
 .obtain⟨mm,h⟩:=S.Bt;exact⟨mm,Nu mm h⟩
 .obtain⟨v,h⟩:=S.tn p hp;exact⟨v,xr _ _ (rj p hp) h⟩
theorem yi(hn:20≤n)(hc:cy D n cx env)(hA:ey A n)(S:SR D F W env none st rv s.heap)(vn: ∀k sl,st.get k=some sl→ ∃t,sl= .aw t){Pt f:Addr}(Dl: ¬W Pt)(rj: ∀p∈env.cells,W p.2)
 {fn b1:Str} {p1 p2 p3 p4 p5:Pos} {T:MV} {r:List Nat} (hl:cx.sc.names.lookup fn=some .globalImplicit) (h1:nsIn D.K mainGlobals fn=some (some (.ref f))) (h2:keepIn D.K (.ref f)=true)
 (hT: ∀k,ev 60 cx (.Name (Mine.S "program") p2) st k=k false T st) (hR: ∀k,ev 60 cx (.Name b1 p4) st k=k false (.list (nl r)) st)
 (QJ: ∀{F:FH}{s1:Shared}{vp:Value}{Q:Value→Shared→Prop},dG D.h₀.get? F→dG F s1.heap.get?→(∀b o,s.heap.get? b=some o→s1.heap.get? b=some o)→(F Pt=none)→D.VR F T vp→
   (∀F' h' tk v,dG F F'→dG F' h'.get?→(∀b o,F' b=some o→F b=some o∨s1.heap.get? b=none)→(∀b o,b≠Pt→s1.heap.get? b=some o→h'.get? b=some o)→(∃ps,h'.get? Pt=some (tabObj ps))→D.VR F' (.list (nl r)) v→Q v { s1 with heap:=h',toks:=tk })→wpAny (model D.prog D.w) A (call (.ref f) [vp]) Q E s1)
 (GY:F Pt=none) (hP: ∃o,s.heap.get? Pt=some o) {Q:Bool→Shared→Prop}
 (hq: ∀F' h' tk,SR D F' W env none st rv h'→dG F F'→(∀b o,F' b=some o→F b=some o∨s.heap.get? b=none)→(∀b o,b≠Pt→s.heap.get? b=some o→h'.get? b=some o)→(∃ps,h'.get? Pt=some (tabObj ps))→Q false { s with heap:=h',toks:=tk }):
 wpAny (model D.prog D.w) A (isTrue (.Compare (.Call (.Name fn p1) [.Name (Mine.S "program") p2] [] p3) [.NotEq] [.Name b1 p4] p5) env (eval (.Compare (.Call (.Name fn p1) [.Name (Mine.S "program") p2] [] p3) [.NotEq] [.Name b1 p4] p5) env)) Q E s:=by
 classical
 have jO: ∀b,¬kg st rv b:=by
  rintro b ⟨k,sl,hk,hm,Y⟩
  obtain⟨t,rfl⟩:=vn k sl hk;exact ew hm
 refine wpAny_isTrue_Compare1 ?_ rfl
 refine wpAny_Call_NameR (Name_function_global hc.kf (hc.ng fn hl) (loadGlobal_global (mg:=D.mg) ?_ (mg_of D.X D.g h1) ?_) (hc.nd fn _ hl).1)
 .exact ae hc.gl (D.g.keeps S.e9)
 .have hs:er [Expr.Name (Mine.S "program") p2]=true:=rfl
  refine callWith_of (P:=fun h=>D.K.In h) (by exact ae (gq hs) rfl) (keeps_K h2) (fe hs (wm (fR (iC hn 60) hA hc p3 [.Name (Mine.S "program") p2] [] (st:=st) (k:=fun as bB=>if as=[.val false T]∧bB=st then some (MV.none,none)else none) (out:=(MV.none,none)) ?_ S) ?_))
  .refine(?_:ev 60 cx (.Name (Mine.S "program") p2) st (fun o t bB=>if([Arg.val o t]:List Arg)=[.val false T]∧bB=st then some (MV.none,none)else none)=_)
   exact(hT ..).trans ((aF ⟨rfl,rfl⟩))
  .clear S hT;rintro vs bk ⟨bK,as,aR,Dt,bX,bh,hv,Z6,hd⟩
   have Dt:(if as=[.val false T]∧aR=st then some (MV.none,(none:Option MV))else none)=some (MV.none,none):=Dt
   have z:as=[.val false T]∧aR=st:=by
    by_cases z:as=[.val false T]∧aR=st
    .exact z
    .exact fU (az z) Dt
   obtain⟨rfl,rfl⟩:=z
   refine⟨bh.IJ,?_⟩
   have lQ: ∀b o,s.heap.get? b=some o→bk.heap.get? b=some o:=fun b o e=>bX.keep b o e (jO b)
   obtain⟨vp,lC,rfl,S7,UJ⟩:=hv.inv
   obtain rfl:lC=[]:=UJ.inv
   have S7:D.VR bK T vp:=S7
   have US:bK Pt=none:=by
    induction z:bK Pt using ab with
    |none=>rfl
    |some o=>
     obtain⟨o',e⟩:=hP
     rcases bX.new Pt o z with q|q|q
     .exact fU GY q
     .exact Sn (e.symm.trans q)
     .exact absurd q (jO _)
   refine QJ bh.base bh.fz lQ US S7 fun F' h' tk v le fz new keep gr SY=>?_
   have S2:SR D F' W env none aR rv h':=bh.live vn Dl rj le fz new keep
   clear bh vn;obtain⟨aP,NZ,rfl⟩:=bX.sh
   refine wm ((iC hn 60 (cx:=cx) (e:= .Name b1 p4) (st:=aR) (k:=fun o t bB=>if o=false∧t= .list (nl r)∧bB=aR then some (MV.none,none)else none) (out:=(MV.none,none)) ((hR ..).trans ((aF ⟨rfl,rfl,rfl⟩)))).2 (s:={ s with heap:=h',toks:=tk }) hA hc S2) ?_
   clear hR S2;rintro vb jJ ⟨q8,o3,t3,lm,KA,ke,m6,WE,Y⟩
   have KA:(if o3=false∧t3= .list (nl r)∧lm=aR then some (MV.none,(none:Option MV))else none)=some (MV.none,none):=KA
   have z:o3=false∧t3= .list (nl r)∧lm=aR:=by
    by_cases z:o3=false∧t3= .list (nl r)∧lm=aR
    .exact z
    .exact fU (az z) KA
   obtain⟨rfl,rfl,rfl⟩:=z
   refine wm (mT (k:=fun c=>if c=false then some (MV.none,none)else none) (out:=(MV.none,none)) (op:= .NotEq) (a:= .list (nl r)) (b:= .list (nl r)) ?_ m6.fz (VR.mono ke.le SY) (VR.at m6.fz WE) hA) ?_
   .refine(?_:((NN (nl r) (nl r)).bind fun b=>(if(!b)=false then some (MV.none,(none:Option MV))else none))=_)
    exact ae (yc ..) rfl
   .clear WE;rintro vc vw ⟨c,hk,rfl,GO,rfl⟩
    have Y6:c=false:=by
     induction c using ag with
     |false=>rfl
     |true=>exact nn hk
    clear hk;subst Y6
    obtain⟨fu,ZD,rfl⟩:=ke.sh
    refine wpAny_truthy_bool ?_
    have nj: ∀b o,h'.get? b=some o→fu.get? b=some o:=fun b o e=>ke.keep b o e (jO b)
    refine hq q8 fu GO m6 (bX.le.trans (le.trans ke.le)) (fun b o e=>?_) (fun b o hb e=>nj b o (keep b o hb (lQ b o e))) ?_
    .rcases ke.new b o e with q|q|q
     .rcases new b o q with q|q
      .rcases bX.new b o q with q|q|q
       .exact .inl q
       .exact .inr q
       .exact absurd q (jO b)
      .right
       induction z:s.heap.get? b using ab with
       |none=>rfl
       |some o'=>have:=lQ b o' z;exact fU (show({ s with heap:=aP,toks:=NZ }:Shared).heap.get? b=none from q) this
     .right
      induction z:s.heap.get? b using ab with
      |none=>rfl
      |some o'=>
       by_cases hb:b=Pt
       .obtain⟨ps,hp⟩:=gr
        rw[hb]at q
        have q:h'.get? Pt=none:=q
        exact Sn (hp.symm.trans q)
       .have:=keep b o' hb (lQ b o' z)
        have q:h'.get? b=none:=q
        exact Sn (this.symm.trans q)
     .exact absurd q (jO b)
    .obtain⟨ps,hp⟩:=gr
     exact⟨ps,nj _ _ hp⟩
end
theorem Lv(P:Params):(gw (dF (KK P) 676)&&(dF (KK P) 676).names.all fun p=>decide (p.2≠ .cell)&&decide (p.2≠ .free))=true:=by kernel_rfl
theorem SV(P:Params):(dF (KK P) 676).names.lookup (S "live_registers")=some .globalImplicit∧(dF (KK P) 676).names.lookup (S "live_slots")=some .globalImplicit∧(dF (KK P) 676).names.lookup (S "script")=some .local:=⟨by kernel_rfl,by kernel_rfl,by kernel_rfl⟩
theorem X6(P:Params):(nsIn (KK P) mainGlobals (S "live_registers")==some (some (.ref 581))&&keepIn (KK P) (.ref 581))=true∧(nsIn (KK P) mainGlobals (S "live_slots")==some (some (.ref 621))&&keepIn (KK P) (.ref 621))=true:=⟨by kernel_rfl,by kernel_rfl⟩
theorem XK(hD:Good D):eE D 31 (Oz D.w.params (GQ D.w.params) (Nf D.w.params) (vC D.w.params) (Nr D.w.params) (Nx D.w.params) (Nw D.w.params)):=by
 have h:=dV hD (n:=31) (fs:=[(S "_law_pen",AE),(S "_law_part",vJ (GQ D.w.params)),(S "local_call",k8 D.w.params),(S "check_program",s1 mX (Nf D.w.params)),(S "_law_due",s4 f9 (vC D.w.params)),(S "_law_slots",s1 f9 (Nr D.w.params)),(S "mask_of",s1 ed (Nx D.w.params)),(S "numbers_in",s1 f9 (Nw D.w.params))]) (ms:=[])
  (ay (Q3 hD) (by decide) (ay (Mc hD) (by decide) (ay (wy hD) (by decide) (ay (U7 hD) (by decide) (ay (JS hD) (by decide) (ay (Ip hD) (by decide) (ay (UU hD) (by decide) (ay (U0 hD) (by decide) bz)))))))) cX
 exact h
noncomputable def uC(P:Params)(is:List Int)(st:St):Prop:= ∃r0 tl l0 l1,lu r0 tl l0 l1∧J1 is (ax (d8 r0 tl) (r0.length+1)) (lx (d8 r0 tl)) (lH (d8 r0 tl) (r0.length+1)) st
theorem FP(hD:Good D)(hA:ey A 31){name:Str}{L fa aS:Addr}{NP:Value}{aP:Heap}{mm:Str→Option Value}{nn:Nat}
 (kK:env=envOf name (dF (KK D.w.params) 676) L fa NP) (F:Fr D.h₀ L aP mm) (hm:mm (S "script")=some (.ref aS)) (hL:D.h₀.get? aS=some (listOf vs.toArray nn)) (hI:D.dm D.h₀.get? (is.map .int) vs) (Sa:is.length≤63)
 (P1:aP.get? 618=some (tabObj #[])) (P2:aP.get? 578=some (tabObj #[])) (z1:D.h₀.get? 618=none) (z2:D.h₀.get? 578=none) (l1:(618:Addr)≠L) (l2:(578:Addr)≠L) (C1:CodeHd D.h₀ 620 618) (C2:CodeHd D.h₀ 580 578)
 (bm: ∃bm ob,D.mg "__builtins__"=some (.ref bm)∧bm≠builtinsNs∧D.h₀.get? bm=some ob∧ob.cls= .type "module"∧ob.dict=some builtinsNs∧ob.data= .plain)
 {s:Shared} {Q:Flow→Shared→Prop} {E:Value→Shared→Prop}
 (hq: ∀h' tk,(∀b o,D.h₀.get? b=some o→h'.get? b=some o)→(∃ps,h'.get? 618=some (tabObj ps))→(∃ps,h'.get? 578=some (tabObj ps))→Q (.ret (.bool true)) { s with heap:=h',toks:=tk }):
 wpAny (model D.prog D.w) A (execs (bW D.w.params) env) Q E { s with heap:=aP }:=by
 classical
 have y5:=Lv D.w.params
 rw[aU]at y5
 obtain⟨MZ,GD⟩:=y5
 have ok:=iD MZ
 have SQ: ∀x k,(dF (KK D.w.params) 676).names.lookup x=some k→k≠ .cell∧k≠ .free:=fun x k e=>by
  have:=dg.mp GD _ (dR e)
  simpa using this
 have e1:env.locals=L:=by exact ae kK rfl
 have e2:env.cells=[]:=by exact ae kK rfl
 have e3:env.scope=dF (KK D.w.params) 676:=by exact ae kK rfl
 have e5:env.globals=mainGlobals:=by exact ae kK rfl
 have e6:env.builtins=builtinsNs:=by exact ae kK rfl
 have kind: ∀y,env.kindOf y=(dF (KK D.w.params) 676).names.lookup y:=fun y=>by unfold Env.kindOf;exact ae e3 rfl
 have tc:=XK hD
 have hc:cy D 31 (fJ D.w.params) env:=by
  refine⟨by refine ae e3 ?_;exact ok.kind,by refine ae e2 ?_;exact .nil,by refine ae e2 ?_;exact fun Y h=>(nomatch h),(fun h=>nomatch h),fun x k e hk=>?_,e5,e6,fun y e=>(kind y).trans e,fun y e=>(kind y).trans e,fun y e=>(kind y).trans e,fun y e=> .inl ((kind y).trans e),fun y k e=>?_,tc.glob,tc.bi,tc.fn,tc.pA,tc.attr⟩
  .rcases hk with rfl|rfl
   .exact absurd rfl (SQ x _ e).1
   .exact absurd rfl (SQ x _ e).2
  .obtain⟨a,b⟩:=ok.ok _ (dR e)
   exact⟨by simpa using a,by simpa using b⟩
 have WR:D.h₀.get? L=none:=Heap.get?_none_of_le F.above
 have S0:SR D D.h₀.get? (fun a=>a=L) env none [(.v (S "script"),.aw (il is))] (fun k=>if k= .v (S "script")then some (.ref aS)else none) aP:=by
  have zl: ∀k sl,St.get [(.v (S "script"),.aw (il is))] k=some sl→k= .v (S "script")∧sl= .aw (il is):=fun k sl e=>by
   rcases aA.mp (d9 e)with q|q
   .clear e;obtain⟨rfl,rfl⟩:=cV q;exact⟨rfl,rfl⟩
   .exact jZ q
  have vr:D.VR D.h₀.get? (il is) (.ref aS):=dO.mpr ⟨vs,⟨aS,nn,rfl,hL,by
   have:=hI.length
   exact ae this (ae (ai ..) (af ‹_› (aa rfl)))⟩,hI⟩
  refine⟨F.keep,dG.refl _,fun a e=>by refine ae e ?_;exact WR,fun a e=>?_,fun k sl e=>?_,fun k sl e hh=>?_,fun k k' s1 s2 a q1 q2 m1=>?_,fun x v e=>?_,fun x v e=>(fun i C d q=>nomatch q),(fun i C d q=>nomatch q),⟨e1,by refine ae e2 ?_;exact fun Y h=>(nomatch h)⟩,⟨by simp,fun i C d q=>nomatch q⟩,(fun i C d q=>nomatch q),⟨mm,by refine ae e1 ?_;exact F.ns⟩,by refine ae e2 ?_;exact fun Y h=>(nomatch h)⟩
  .obtain⟨o,Y,Y,h,Y⟩:=F.ns
   exact⟨o,by exact ae e h⟩
  .obtain⟨rfl,rfl⟩:=zl k sl e
   exact⟨.ref aS,aF rfl,vr⟩
  .obtain⟨rfl,rfl⟩:=zl k sl e;exact ew hh
  .obtain⟨rfl,rfl⟩:=zl k s1 q1;exact ew m1
  .have e:(if(.v x:fG)= .v (S "script")then some (Value.ref aS)else none)=some v:=e
   by_cases q:(.v x:fG)= .v (S "script")
   .obtain rfl:=dZ (aF q) e
    obtain rfl:x=S "script":=by cases q;rfl
    refine⟨fun Y=>⟨mm,by refine ae e1 ?_;exact F.ns,hm⟩,fun z=>?_⟩
    rw[kind,(SV D.w.params).2.2]at z
    rcases z with z|z<;>cases z
   .exact fU (az q) e
 have zl: ∀k sl,St.get [(.v (S "script"),.aw (il is))] k=some sl→sl= .aw (il is):=fun k sl e=>by
  rcases aA.mp (d9 e)with q|q
  .clear e;obtain⟨rfl,rfl⟩:=cV q;rfl
  .exact jZ q
 have fr:cT (fJ D.w.params) env none (fun b=>if b=618 then some (tabObj #[])else if b=578 then some (tabObj #[])else none) D.h₀.get? { s with heap:=D.h₀ } (fun Y=>False) (fun Y=>False) none D.h₀.get? (fun a=>a=L) [(.v (S "script"),.aw (il is))] (fun k=>if k= .v (S "script")then some (.ref aS)else none) { s with heap:=aP }:=by
  refine⟨⟨aP,s.toks,rfl⟩,dG.refl _,fun b o e=> .inl e,fun b o e Y=>F.keep b o e,fun b e=>?_,fun k t b q1 q2=>?_,fun k t q1=>?_,fun b h=>h.elim,fun b h=>(nomatch h),fun a e=>by refine ae e ?_;exact WR,fun x c q1 q2=>absurd rfl (SQ x _ q1).1,fun b o e=>?_,fun i C d e=>(nomatch e)⟩
  .induction z:D.h₀.get? b using ab with
   |none=>exact absurd z e
   |some o=>refine ae (show({ s with heap:=aP }:Shared).heap.get? b=some o from F.keep b o z) ?_;exact fun z=>nomatch z
  .have:=zl k _ q1;cases this
  .have:=zl k _ q1;cases this
  .have nh: ¬dh [(.v (S "script"),.aw (il is))] (fun k=>if k= .v (S "script")then some (.ref aS)else none) b:=by
    rintro⟨k,sl,q1,q2,Y⟩
    have:=zl k _ q1;clear q1;subst this;exact ew q2
   have e:(if b=618 then some (tabObj #[])else if b=578 then some (tabObj #[])else none)=some o:=e
   by_cases b1:b=618
   .obtain rfl:=dZ (aF b1) e;subst b1
    exact⟨P1,z1,l1,nh⟩
   .rw[az b1]at e
    by_cases b2:b=578
    .obtain rfl:=dZ (aF b2) e;subst b2
     exact⟨P2,z2,l2,nh⟩
    .exact fU (az b2) e
 have QO:bW D.w.params=(bW D.w.params).take 8++(bW D.w.params).drop 8:=(List.take_append_drop 8 _).symm
 refine ae QO ?_
 have ql:=XS D.w.params
 generalize (bW D.w.params).drop 8=vz at ql
 have Hc:bF 60 (fJ D.w.params) ((bW D.w.params).take 8) [(.v (S "script"),.aw (il is))] (fun st=>if uC D.w.params is st then some (MV.none,some MV.none)else none)=some (MV.none,some MV.none):=by
  obtain⟨r0,tl,a0,a1,H,st,q1,q2⟩:=LW (P:=D.w.params) is Sa (fun st=>if uC D.w.params is st then some (MV.none,some MV.none)else none)
  refine q2.trans ?_
  exact aF ⟨r0,tl,a0,a1,H,q1⟩
 refine x8 (by decide) (cx:=fJ D.w.params) (k:=fun st=>if uC D.w.params is st then some (MV.none,some MV.none)else none) (out:=(MV.none,some MV.none)) hA hc ?_ ?_ 60 Hc S0 fr
 .intro F1 qk Wj s1 k1 S1 r1
  have fo:uC D.w.params is qk:=by
   by_cases z:uC D.w.params is qk
   .exact z
   .have k1:(if uC D.w.params is qk then some (MV.none,some MV.none)else none)=some (MV.none,some MV.none):=k1
    exact fU (az z) k1
  clear k1;obtain⟨r0,tl,a0,a1,H,p,ps,bg,fs,rws,w,rfl⟩:=fo
  obtain⟨F2,S2,r2⟩:=uT [.v (S "pen"),.v (S "registers"),.v (S "slots")] S1 r1
  have gE:mG [.v (S "pen"),.v (S "registers"),.v (S "slots")] (lG (il is) p (.aw ps) bg (.aw fs) (Df rws w (ax (d8 r0 tl) (r0.length+1)) (.own (.list (nl (lx (d8 r0 tl))))) (.own (.list (nl (lH (d8 r0 tl) (r0.length+1)))))))=
   BE (il is) p ps fs rws w (ax (d8 r0 tl) (r0.length+1)) bg (nl (lx (d8 r0 tl))) (nl (lH (d8 r0 tl) (r0.length+1))):=by kernel_rfl
  rw[gE]at S2 r2
  have X:=DP (P:=D.w.params) H
  have gG:=HG H
  generalize d8 r0 tl=os at*
  generalize r0.length+1=n0 at*
  have vn: ∀k sl,(BE (il is) p ps fs rws w (ax os n0) bg (nl (lx os)) (nl (lH os n0))).get k=some sl→ ∃t,sl= .aw t:=fun k sl e=>by
   have all: ∀q∈BE (il is) p ps fs rws w (ax os n0) bg (nl (lx os)) (nl (lH os n0)),∃t,q.2= .aw t:=by
    intro q hq
    simp only[BE,aA,cH,or_false]at hq
    rcases hq with rfl|rfl|rfl|rfl|rfl|rfl|rfl|rfl|rfl|rfl<;>exact⟨_,rfl⟩
   exact all _ (d9 e)
  have RL:=r2.pr 618 (tabObj #[]) (aF rfl)
  have RK:=r2.pr 578 (tabObj #[]) (by exact(az (by decide)).trans ((aF rfl)))
  have rj: ∀q∈env.cells,(fun a=>a=L) q.2:=by exact ae e2 (fun Y h=>(nomatch h))
  have WW: ∀{Pt:Addr},D.h₀.get? Pt=none→mainGlobals≠Pt:=fun z e=>by
   obtain⟨o,Y,Y,h,Y⟩:=D.g
   rw[e,z]at h;cases h
  have Xb: ∀{Pt:Addr}{h:Heap},D.h₀.get? Pt=none→(∀b o,D.h₀.get? b=some o→h.get? b=some o)→h.BuiltinsAt D.mg Pt:=fun{Pt h} z hk=>by
   obtain⟨b,ob,b1,b2,b3,b4,b5,b6⟩:=bm
   refine⟨b,ob,b1,b2,fun q=>?_,fun q=>?_,hk _ _ b3,b4,b5,b6⟩
   .clear b4 b5;obtain⟨o,es,ep,e,hd,Y⟩:=D.g
    rw[q,e]at b3;obtain rfl:=b8 b3;rw[hd]at b6;cases b6
   .rw[q,z]at b3;cases b3
  have n1:=X6 D.w.params
  rw[aU,aU]at n1
  clear S1 r1;obtain⟨⟨m1,m2⟩,m3,m4⟩:=n1
  have hk:=hD.k
  obtain⟨G',ZT,rfl⟩:=r2.sh
  obtain⟨V1,V0,VZ,VY,VX,SH,SG,SF,SE,SD,pf,pg,ph,tb,rfl⟩:=ql
  refine wpAny_execs_cons (wpAny_If (wpAny_isTrue_BoolOp ?_))
  show wpAny _ A (do
   match BoolOp.Or,←isTrue (.Compare (.Call (.Name (S "live_registers") V1) [.Name (S "program") V0] [] VZ) [.NotEq] [.Name (S "registers") VY] VX) env (eval (.Compare (.Call (.Name (S "live_registers") V1) [.Name (S "program") V0] [] VZ) [.NotEq] [.Name (S "registers") VY] VX) env)with
   | .And,false=>pure false
   | .Or,true=>pure true
   |_,_=>allTrue .Or [.Compare (.Call (.Name (S "live_slots") SH) [.Name (S "program") SG] [] SF) [.NotEq] [.Name (S "slots") SE] SD] env) _ E _
  refine ak (yi (n:=31) (Pt:=578) (f:=581) (r:=lx os) (T:=ax os n0) (by decide) hc hA S2 vn RK.2.2.1 rj (SV D.w.params).1 (by exact ae hk (eq_of_beq m1)) (by exact ae hk m2) (fun k=>Ju D.w.params _ _ _ _ _ _ _ _ _ _ _ _ _ _ _ _ k _) (fun k=>Qa D.w.params _ _ _ _ _ _ _ _ _ _ _ _ _ _ _ _ k _) (fun{F s1 vp Q} q1 q2 q3 q4 q5 q6=>?_) RK.2.1 ⟨_,RK.1⟩ fun F3 h3 t3 S3 Z1 T8 nj Zn=>?_)
  .exact FL hD X (hA.le (by decide)) q1 q2 q4 (q3 _ _ RK.1) (C2.keeps fun b o e=>q2 b o (q1 b o e)) (Xb z2 fun b o e=>q2 b o (q1 b o e)) (WW z2) q5 q6
  .have Zv:F3 618=none:=by
    induction z:F3 618 using ab with
    |none=>rfl
    |some o=>
     rcases T8 618 o z with q|q
     .exact fU RL.2.1 q
     .exact Sn (RL.1.symm.trans q)
   have T3:h3.get? 618=some (tabObj #[]):=nj 618 _ (by decide) RL.1
   show wpAny _ A (do
    match BoolOp.Or,←isTrue (.Compare (.Call (.Name (S "live_slots") SH) [.Name (S "program") SG] [] SF) [.NotEq] [.Name (S "slots") SE] SD) env (eval (.Compare (.Call (.Name (S "live_slots") SH) [.Name (S "program") SG] [] SF) [.NotEq] [.Name (S "slots") SE] SD) env)with
    | .And,false=>pure false
    | .Or,true=>pure true
    |_,_=>allTrue .Or [] env) _ E _
   refine ak (yi (n:=31) (s:={ s with heap:=h3,toks:=t3 }) (Pt:=618) (f:=621) (r:=lH os n0) (T:=ax os n0) (by decide) hc hA S3 vn RL.2.2.1 rj (SV D.w.params).2.1 (by exact ae hk (eq_of_beq m3)) (by exact ae hk m4) (fun k=>Ju D.w.params _ _ _ _ _ _ _ _ _ _ _ _ _ _ _ _ k _) (fun k=>P9 D.w.params _ _ _ _ _ _ _ _ _ _ _ _ _ _ _ _ k _) (fun{F s1 vp Q} q1 q2 q3 q4 q5 q6=>?_) Zv ⟨_,T3⟩ fun F4 h4 t4 S4 Z0 ZI Qp Zm=>?_)
   .exact FK hD X (hA.le (by decide)) q1 q2 q4 (q3 _ _ T3) (C1.keeps fun b o e=>q2 b o (q1 b o e)) (Xb z1 fun b o e=>q2 b o (q1 b o e)) (WW z1) q5 q6
   .refine av ?_
    refine ae (az cA) ?_
    refine wpAny_execs_nil ?_
    refine wpAny_execs_cons (wpAny_Return_some (wm ((iC (n:=31) (by decide) 60 (LV (x:=il is) (p:=p) (ps:=ps) (fs:=fs) (rws:=rws) (w:=w) (T:=ax os n0) (bg:=bg) (rg:=lx os) (sg:=lH os n0) ?_ ?_)).2 (s:={ s with heap:=h4,toks:=t4 }) hA hc S4) ?_))
    .exact gG
    .refine ae (dC ..) ?_;have:=X.lim;exact af ‹_› (aa rfl)
    .rintro v s5 ⟨F5,o5,t5,ZV,k5,Pp,S5,WC,WM⟩
     obtain rfl:t5= .bool true:=(cV (Option.some.inj k5)).1
     obtain⟨F6,S6,P6,RW⟩:=hE.freeze S5 Pp WC WM
     have RW:D.VR F6 (.bool true) v:=RW
     clear Pp S5 WM WC RW;obtain rfl:=vY (D:=D) (F:=F6) RW
     have jO: ∀b,¬kg (BE (il is) p ps fs rws w (ax os n0) bg (nl (lx os)) (nl (lH os n0))) Wj b:=by
      rintro b ⟨k,sl,hk,hm,Y⟩
      obtain⟨t,rfl⟩:=vn k sl hk;exact ew hm
     obtain⟨h6,t6,rfl⟩:=P6.sh
     refine hq h6 t6 (fun b o e=>S6.e9 b o e) ?_ ?_
     .obtain⟨tC,hp⟩:=Zm
      exact⟨tC,P6.keep _ _ hp (jO _)⟩
     .obtain⟨tC,hp⟩:=Zn
      exact⟨tC,P6.keep _ _ (Qp 578 _ (by decide) hp) (jO _)⟩
 .rintro v s' ⟨F',bB,fx,t,he,S',r',Y⟩
  have hl:ci bB=some .none:=(cV he).2.symm
  obtain⟨k,hk⟩:=i9 S'.nd hl
  have h1:=r'.kG k _ hk
  obtain⟨v',h2,Y⟩:=S'.sl k _ hk
  exact fU h1 h2
theorem FS(h:IntsAre vs is):D.dm F (is.map .int) vs:=by
 induction h with
 |nil=>exact dm.nil
 |cons n t _ ih=>exact dm.cons zC ih
theorem Ni{prog:Program}{w:World}{h₀:Heap}{loose:List Str}{Ud:ExcName→Option Value}{mg mb:Str→Option Value}(X:(KK w.params).In h₀)(T:Top topProg loose Ud mg mb h₀){name:Str}{sc:Scope}{L fa aS:Addr}{NP:Value}{vs lC:List Value}{mm:Str→Option Value}{b:List Stmt}{nn:Nat}
 (hb:b=bW w.params) (y5:sc=dF (KK w.params) 676) (F:Fr h₀ L s.heap mm) (hm:mm (S "script")=some (.ref aS)) (hL:h₀.IsList aS vs.toArray) (hO:h₀.get? aS=some (listOf lC.toArray nn)) (hI:IntsAre vs is) (Sa:is.length≤63)
 (N:News h₀ L s.heap [(618,tabObj #[]),(578,tabObj #[])]) (C1:CodeHd h₀ 620 618) (C2:CodeHd h₀ 580 578)
 {Q:Flow→Shared→Prop} {E:Value→Shared→Prop}
 (hq: ∀h' tk,(∀b o,h₀.get? b=some o→h'.get? b=some o)→GrownAt 618 h'→GrownAt 578 h'→Q (.ret (.bool true)) { s with heap:=h',toks:=tk }):
 wpAny (model prog w) (callerA.deeper (envOf name sc L fa NP)) (execs b (envOf name sc L fa NP)) Q E s:=by
 subst hb
 subst y5
 have gD:lC=vs:=by
  obtain⟨o,e,_,n,hd⟩:=hL
  obtain rfl:=dZ hO e
  have:Data.seq lC.toArray nn=Data.seq vs.toArray n:=hd
  have:=(Data.seq.inj this).1
  simpa using this
 subst gD
 have n1:=N _ (.head _)
 have n2:=N _ (.tail _ (.head _))
 exact FP (D:=⟨prog,w,KK w.params,h₀,mg,mb,X,T.g,T.b,T.nolimit,T.builtins⟩) ⟨rfl⟩ (A:=callerA.deeper (envOf name (dF (KK w.params) 676) L fa NP)) ⟨rfl,by refine(?_:callerA.depth+1+31<900);decide,by refine(?_:callerA.units+3+10*31<9000);decide⟩ rfl F hm hO (FS hI) Sa n1.1 n2.1 n1.2.2 n2.2.2 n1.2.1 n2.2.1 C1 C2 T.bmain (s:=s) (aP:=s.heap) hq
theorem VS(args:List WData):PySem.Challenge.rw_ok0176_01.row.claim.post args (WData.bool true) args=true:=by
 refine postC_of (X:=true==true) rfl ?_ rfl
 exact w_eq_bool (w_res rfl) w_lit
end Mine
set_option tactic.hygienic true
section
open PySem PySem.W PyProof.Rows PySem.Calls PySem.Spec PySem.W.Fast
set_option maxRecDepth 1000000
set_option maxHeartbeats 0
namespace Mine.H
abbrev pw:Program:=PySem.Challenge.pw_ok0176_01
noncomputable abbrev BX:=PySem.W.Fast.tw14082659384304107361
noncomputable abbrev rk:=PySem.W.Fast.tw14364793385576792824
noncomputable abbrev qH:=PySem.W.Fast.tw4187177175401517315
noncomputable def pq:Program:=view pw [124]
noncomputable def lo:List PySem.Str:=["_wall","GateError","CodeError","ProgramError","bit_count","LOOKUP","UPDATE","DELETE","CLOCK","PRINT","RANDOM","PROCESSOR","PUSH","POP","PEEK","OUTPUT","RESERVE","SUBMIT","DISCARD","Helper","helper_rows","helper_of","LD","LDX","ST","STX","ALU","JMP","JMP32","ALU64","BY_REGISTER","WIDE","CALL","EXIT","MODE_MEM","MODE_ATOMIC","FETCH","XCHG","CMPXCHG","CLASSES","DEEDS","JUMPS","KNOWN","Order","class_of","is_alu","is_jumping","operation","is_register","width_of","is_wide","is_jump","is_call","is_local_call","is_exit","is_branch","is_load","is_store","is_atomic","distance","atomic_name","each_once","alu_uses","jump_uses","atomic_uses","uses","spot_of","deed_code","branch_code","width_code","alu_reg","branch_imm","load","store","store_imm","atomic_code","atomic","call","local_call","leave","MOST_ORDERS","MOST_FRAMES","Program","has_goal","successors","local_calls","reachable","calls_of","called_by","frame_counts","check_goals","check_ends","check_reached","check_calls","check_program","FRAME","ALL_SLOTS","WRITTEN_BY_CALLS","mask_of","numbers_in","call_reads","register_masks","settle","live_registers","slots_touched","is_whole_slot","slot_masks","leaks_frame","leaking_subs","live_slots","_law_pen","_law_draw","_law_pick","_law_row","_law_part","_law_behind","_law_due","_law_slots"].map PySem.Str.ofString
noncomputable def Xl:List (PySem.Str×WData):=[]
noncomputable def Hh:Array GenState:=Array.mk []
noncomputable def s0(w:World)(os:OsState):Shared:=⟨boot_heap w.params,Hh,boot_drawn,boot_toks,os⟩
noncomputable def rn(w:World)(os:OsState):Option Shared:=BX rk pw w 11 (some (.ref 6)) 4300 (s0 w os) (topStub pw)
noncomputable def SA:List Addr:=[2,3,15,17,18,20,21,22,29,30,32,33,35,36,37,39,40,42,43,44,45,46,47,50,57,58,59,62,69,70,71,74,76,77,79,80,88,90,91,93,94,95,97,98,100,101,102,103,104,105,106,109,111,112,114,115,116,118,119,121,122,130,131,133,134,136,137,138,140,141,143,144,145,146,147,148,149,152,154,155,157,158,159,161,162,164,165,166,168,169,171,172,173,175,176,178,179,180,182,183,185,186,187,189,190,192,193,194,196,197,199,200,201,203,204,206,207,208,210,211,213,214,215,217,218,220,221,222,224,225,227,228,229,231,232,234,235,236,238,239,241,242,243,245,246,248,249,250,252,253,255,256,257,259,260,262,263,264,266,267,269,270,271,274,275,276,278,279,281,282,283,285,286,288,289,290,292,293,295,296,297,299,300,302,303,304,306,307,309,310,311,313,314,316,317,318,320,321,323,324,325,327,328,330,331,332,333,335,336,338,339,340,341,343,344,346,347,348,350,351,353,354,355,357,358,360,361,362,364,365,367,368,369,371,372,374,375,376,378,379,381,382,383,385,386,388,389,390,392,393,395,396,397,399,400,402,403,411,413,414,416,417,418,420,421,423,424,425,427,428,430,431,432,434,435,437,438,439,441,442,444,445,446,448,449,451,452,453,455,456,458,459,460,461,462,463,464,467,469,470,472,473,474,476,477,479,480,481,484,485,486,489,490,491,493,494,496,497,498,501,502,503,506,507,508,510,511,513,514,515,517,518,520,521,522,524,525,527,528,529,531,532,534,535,536,537,539,540,542,543,544,546,547,549,550,551,554,555,556,558,559,561,562,563,565,566,568,569,570,572,573,575,576,577,580,581,582,584,585,587,588,589,591,592,594,595,596,598,599,601,602,603,605,606,608,609,610,612,613,615,616,617,620,621,622,625,626,627,629,630,632,633,634,636,637,639,640,641,643,644,646,647,648,650,651,653,654,655,657,658,660,661,662,665,666,667,670,671,672,675,676]
theorem J5(P:Params):SA=(Mine.hd.heap_1 P).map (·.1):=by kernel_rfl
noncomputable def hk:Hook:=kmHook Mine.hd.heap_1 SA J5 [618,578]
noncomputable def xt(s:Shared):Bool:=xlAt pq Xl s&&recOk (RowW.records PySem.Challenge.rw_ok0176_01.row.toRowW) s
end Mine.H
end
section
open PySem PySem.W PyProof.Rows PySem.Calls PySem.Spec PySem.W.Fast
set_option maxRecDepth 1000000
set_option maxHeartbeats 0
namespace Mine.H
noncomputable abbrev sb:=PySem.W.Fast.tw10156331382660048174
noncomputable abbrev pY:=PySem.W.Fast.tw6613529449190102663
noncomputable abbrev zt:=PySem.W.Fast.tw11892475500146522536
noncomputable def Tw(w:World)(n:Nat):SharedT→Thread→Option SharedT:=
 Nat.rec (fun _ _=>none) (fun _ ih s t=>match through t with
  |true=>some s
  |false=>match pY 11 (some (.ref 6)) t with
   |false=>none
   |true=>match sb (zt rk) pw w s t with
    |some (s',t')=>ih s' t'
    |none=>none) n
noncomputable def t0(P:Params):BT:=(((boot_heap P).objs.toList).foldl (fun(x:BT×Nat) o=>(x.1.ins x.2 o,x.2+1)) (BT.nil,0)).1
noncomputable def sT(w:World)(os:OsState):SharedT:=⟨t0 w.params,11,(boot_heap w.params).life,Hh,boot_drawn,boot_toks,os⟩
end Mine.H
end
section
open PySem PySem.W PyProof.Rows PySem.Calls PySem.Spec PySem.W.Fast
set_option maxRecDepth 1000000
set_option maxHeartbeats 0
namespace Mine.H
noncomputable def DA(s:SharedT)(a:Nat):Option Obj:=match Nat.blt a s.n with
 |true=>match s.tree.get a with
  |some o=>alive o
  |none=>none
 |false=>none
theorem HD(w:World)(os:OsState):(Tw w 4300 (sT w os) (topStub pw)).map (fun s=>(staticsOk (importedModules pw.main.body) (boot_heap w.params) s.abs.heap&&namesBound pw s.abs.heap&&gensDone s.abs&&laidKept (boot_heap w.params) s.abs.heap,qH pq lo (importedModules pw.main.body) xt true s.abs,SA.map (DA s),[618,578].map (DA s)))=some (true,openGood pq lo,hk.val w):=by kernel_rfl
end Mine.H
end
section
open PySem PySem.W PyProof.Rows PySem.Calls PySem.Spec PySem.W.Fast
set_option maxRecDepth 1000000
set_option maxHeartbeats 0
namespace Mine.H
theorem xX{w:World}: ∀{n:Nat}{s s':SharedT}{t:Thread},Tw w n s t=some s'→topRun treeTable pw w 11 (some (.ref 6)) n s.abs t=some s'.abs
 |0,s,s',t,h=>by cases h
 |n+1,s,s',t,h=>by
  have h:(match through t with
   |true=>some s
   |false=>match pY 11 (some (.ref 6)) t with
    |false=>none
    |true=>match sb (zt rk) pw w s t with
     |some (s',t')=>Tw w n s' t'
     |none=>none)=some s':=h
  rw[show pY=stepOk from te6613529449190102663.symm,show sb= @stepT from te10156331382660048174.symm,show zt=denote from te11892475500146522536.symm,show rk=treeTable from te14364793385576792824.symm]at h
  unfold topRun
  cases ht:through t with
  |true=>rw[ht]at h;exact congrArg (Option.map SharedT.abs) h
  |false=>
   rw[ht]at h
   cases hk:stepOk 11 (some (.ref 6)) t with
   |false=>rw[hk]at h;cases h
   |true=>
    rw[hk]at h
    cases hs:stepT (denote treeTable) pw w s t with
    |none=>rw[hs]at h;cases h
    |some r=>obtain⟨d3,ZE⟩:=r;rw[hs]at h;show(match step (denote treeTable) pw w s.abs t with| .go s' t'=>_| .halt _ _=>none)=_;rw[stepT_spec hs];exact xX h
theorem CD{s:SharedT}{a:Nat}{o:Obj}(h:DA s a=some o):s.abs.heap.get? a=some o:=by
 unfold DA at h
 cases hb:Nat.blt a s.n with
 |false=>rw[hb]at h;cases h
 |true=>
  rw[hb]at h
  cases hg:s.tree.get a with
  |none=>rw[hg]at h;cases h
  |some x=>rw[hg]at h;exact(abs_get (by have:=Nat.le_of_ble_eq_true hb;exact this) hg).trans h
theorem D4{s:SharedT}: ∀{l:List Nat}{r:List Obj},l.map (DA s)=r.map some→l.map s.abs.heap.get?=r.map some
 | [],[],_=>rfl
 | [],_::_,h=>nomatch h
 |_::_,[],h=>nomatch h
 |_::_,_::_,h=>by
  have:=List.cons.inj h
  exact List.cons_eq_cons.mpr ⟨CD this.1,D4 this.2⟩
theorem boot_abs(w:World)(os:OsState):(sT w os).abs=s0 w os:=by kernel_rfl
theorem z1{w:World}:((boot_heap w.params).isNs mainGlobals&&Hh.size==0)=true:=by kernel_rfl
theorem z2{w:World}:(boot_heap w.params).objs.size=11:=by kernel_rfl
theorem z3{w:World}:(boot_heap w.params).nsMap mainGlobals "__annotations__"=some (.ref 6):=by kernel_rfl
theorem o1:opening pw=plainProg pw.main.scope.names:=by kernel_rfl
theorem o3(s:Shared):fenceModules? pw s=some s:=by kernel_rfl
theorem Ia{p q:Program}{loose:List PySem.Str}{Xt:Shared→Bool}{α:Type}{Yf:Shared→α}{Ya:α}{N:Nat}{g0:Bool}{w:World}{w7:Heap}{AP:Array GenState}{KP:Drawn}{Du:Nat}{rD:Nat}{Xe:Option Value}
 (PX:(fencedOpening treeTable p w N).map (fun s=>(s.heap,s.gens,s.drawn,s.toks))=some (w7,AP,KP,Du))
 (a1:(w7.isNs mainGlobals&&AP.size==0)=true) (a2:w7.objs.size=rD) (a3:w7.nsMap mainGlobals "__annotations__"=Xe)
 (run: ∀os:OsState,∃s:Shared,topRun treeTable p w rD Xe N ⟨w7,AP,KP,Du,os⟩ (topStub p)=some s∧(staticsOk (importedModules p.main.body) w7 s.heap&&namesBound p s.heap&&gensDone s&&laidKept w7 s.heap)=true∧
   openSeen q loose (importedModules p.main.body) Xt g0 s=openGood q loose∧Yf s=Ya):
 (openEnds treeTable p w N).map (fun s=>(openSeen q loose (importedModules p.main.body) Xt g0 s,Yf s))=some (openGood q loose,Ya):=by
 obtain⟨⟨h,gs,d,k,os⟩,e,e'⟩:=Option.map_eq_some_iff.mp PX
 obtain⟨rfl,rfl,rfl,rfl⟩:h=w7∧gs=AP∧d=KP∧k=Du:=by simpa using e'
 obtain⟨s,r,l1,l2,l3⟩:=run os
 have t:topFrom treeTable p w N ⟨h,gs,d,k,os⟩=some s:=by
  unfold topFrom
  dsimp only
  rw[a1,a2,a3,r]
  show(match staticsOk (importedModules p.main.body) h s.heap&&namesBound p s.heap&&gensDone s&&laidKept h s.heap with|true=>_|false=>_)=_
  rw[l1]
 unfold openEnds
 rw[e]
 show(topFrom treeTable p w N _).map _=_
 rw[t]
 exact congrArg some (Prod.ext l2 l3)
theorem Lx(w:World)(os:OsState): ∃s:Shared,topRun treeTable pw w 11 (some (.ref 6)) 4300 ⟨boot_heap w.params,Hh,boot_drawn,boot_toks,os⟩ (topStub pw)=some s∧(staticsOk (importedModules pw.main.body) (boot_heap w.params) s.heap&&namesBound pw s.heap&&gensDone s&&laidKept (boot_heap w.params) s.heap)=true∧
 openSeen pq lo (importedModules pw.main.body) xt true s=openGood pq lo∧hk.obs s=hk.val w:=by
 obtain⟨s,r,hs⟩:=Option.map_eq_some_iff.mp (HD w os)
 obtain⟨l1,l2⟩:=Prod.mk.inj hs
 obtain⟨l2,l3⟩:=Prod.mk.inj l2
 rw[show qH= @openSeen from te4187177175401517315.symm]at l2
 obtain⟨l3,l4⟩:=Prod.mk.inj l3
 refine⟨s.abs,?_,l1,l2,?_⟩
 .have r:=xX r
  rw[boot_abs]at r
  exact r
 .exact Prod.ext ((D4 (l3.trans (List.map_map ..).symm)).trans (List.map_map ..)) (D4 (r:=[tabObj #[],tabObj #[]]) l4)
theorem left:LeftO pw pq lo xt hk.obs hk.val 4300 true:=fun w=>Ia (boot_open o1 (by rfl) o3 w) z1 z2 z3 (Lx w)
end Mine.H
end
section
open PySem PySem.W PyProof.Rows PySem.Calls PySem.Spec PySem.W.Fast
set_option maxRecDepth 1000000
set_option maxHeartbeats 0
namespace Mine.H
theorem wl:tw12908688711261696721 pw=true:=by
 delta tw12908688711261696721
 with_reducible refine look_both ?_ ?_
 repeat' with_reducible refine look_both ?_ ?_
 all_goals as_aux_lemma=>kernel_rfl
theorem wp:tw2436336058641802641 PySem.Challenge.rw_ok0176_01.row=true:=by
 delta tw2436336058641802641
 with_reducible refine look_both ?_ ?_
 repeat' with_reducible refine look_both ?_ ?_
 exact wl
 all_goals as_aux_lemma=>kernel_rfl
theorem well:OpenLaw.wellSaid PySem.Challenge.rw_ok0176_01=true:=by
 rw[te9446332074065402090]
 delta tw9446332074065402090
 with_reducible refine look_both ?_ ?_
 repeat' with_reducible refine look_both ?_ ?_
 exact look_both (look_both wp (by kernel_rfl)) (by kernel_rfl)
 all_goals as_aux_lemma=>kernel_rfl
end Mine.H
end
open PySem PySem.W PyProof.Rows PySem.Calls PySem.Spec PySem.W.Fast
set_option maxRecDepth 1000000
theorem Mine.well_list{P:Params}{h:Heap}{a:Addr}{xs:List PyData}(w:Well P h (Value.ref a) (ofPy (PyData.list xs))): ∃vs:List Value,∃n,h.get? a=some (listOf vs.toArray n):=by
 have w:Well P h (Value.ref a) (.list (ofPys xs)):=w
 cases w with
 |list h1 _=>exact⟨_,_,h1⟩
set_option maxHeartbeats 4000000 in
theorem PySem.Challenge.cw_ok0176_01_holds : PySem.Challenge.rw_ok0176_01.Holds := by
 w_on
 refine holds_law Mine.H.well fun TP=>?_
 refine holds_open (q:=Mine.H.pq) (loose:=Mine.H.lo) (Xt:=Mine.H.xt) (XP:=XL Mine.H.pq Mine.H.Xl) (Yf:=Mine.H.hk.obs) (Ya:=Mine.H.hk.val) (YP:=(kmHook Mine.hd.heap_1 Mine.H.SA Mine.H.J5 [618,578]).says) (N:=4300) Mine.H.left Mine.H.hk.of Mine.H.hk.keeps (fun s e=>xl_of s (Bool.and_eq_true_iff.mp e).1) XL.keeps (by rfl) (by rfl) (by rfl) (fun s e=>recFacts_of (Bool.and_eq_true_iff.mp e).2) (by rfl) TP (by decide+kernel) ⟨rfl,rfl,rfl,rfl,rfl,by decide+kernel⟩ ?hw ?hc
 case hw=>w_witness2
 case hc=>
  k_go0
  have F:=‹Fr (ghostOf _ [(620,618),(580,578)]) _ _ _›
  have T:=‹Top topProg _ _ _ _ (ghostOf _ [(620,618),(580,578)])›
  have N:=‹News _ _ _ [(618,tabObj #[]),(578,tabObj #[])]›
  have X:=‹(Mine.hd.heap_1 _).In (ghostOf _ [(620,618),(580,578)])›
  have hI:=‹IntsAre _ _›
  have hT:=‹TabsAt [(620,618),(580,578)] _›
  have wl:=‹Well _ _ (Value.ref _) (ofPy (PyData.list _))›
  have hg:=‹_=(#[]:Array _)›
  obtain⟨lC,nn,hO⟩:=Mine.well_list wl
  have Zd:=ghost_get hT hO (fun e=>by cases e)
  refine Mine.Ni X T (by kernel_rfl) (by kernel_rfl) F rfl ‹(ghostOf _ [(620,618),(580,578)]).IsList _ _› Zd hI (by omega) N ‹CodeHd _ 620 618› ‹CodeHd _ 580 578› fun h' tk keep g1 g2=>?_
  refine⟨⟨.inl ⟨.bool true,.bool true,[],rfl,fun cls=>rfl,ReadsW.bool true,Mine.VS _,fun _=>⟨List.nodup_nil,fun _ h=>nomatch h⟩⟩,keep,rfl,?_⟩,g1,g2,trivial⟩
  assumption
