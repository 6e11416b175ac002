import PyProof.Rows.All
import Wide.All
import OpenK.AllK
import Wide.FinOn
import KE.KTryDeep
import KE.KxPercentT
import KE.KDictObj
import KE.KBytesCut
import PyProof.EqAt
import PyProof.EqKinds
import PyProof.NeKinds
import PyProof.PureInt
import PyProof.DictRoads
import KE.BytesMake
import PyProof.ListRange
import PyProof.DictWalks
import PyProof.DictTruth
import PyProof.Rows.SortWalk
import PyProof.Rows.SortStr
import PyProof.TupleOfGen
import PyProof.RangeFor
import PyProof.Rows.GenSrcRange
import KE.KSorted
import KE.LcSums
import KE.KDeep
import KE.KListLetter
import KE.KxMul
import PyProof.EvalArms
import PyProof.DefCall
import KE.KBytesWalk
import Open.Head
import PySem.Challenge.RW_no0425_01
set_option Elab.async false
set_option linter.all false
set_option maxRecDepth 100000
set_option genSizeOf false
set_option genInjectivity false
set_option bootstrap.genMatcherCode false
set_option tactic.hygienic false
namespace Mine
open PySem PySem.W PySem.Calls PyProof.Rows PySem.Spec
noncomputable abbrev aL:= @List.length_append
noncomputable abbrev ar:= @wpAny_bind
noncomputable abbrev aQ:= @decide_eq_false
noncomputable abbrev bf:= @decide_eq_true
noncomputable abbrev bI:= @List.length_map
noncomputable abbrev dU:= @List.getElem?_concat_length
noncomputable abbrev cq:= @Option.some.inj
noncomputable abbrev br:= @wpAny_pure
noncomputable abbrev eF:=λ{α:Type _} {a b:α}=>(List.mem_singleton (a:=a) (b:=b)).mp
noncomputable abbrev gw:=λ{α:Type _} {l:List α} {i:Nat} {a:α}=>(List.getElem?_eq_some_iff (l:=l) (i:=i) (a:=a)).mp
noncomputable abbrev bZ:= @List.append_assoc
noncomputable abbrev ch:= @List.append_nil
noncomputable abbrev eJ:= @List.getElem?_append_right
noncomputable abbrev iT:= @List.getElem?_append_left
noncomputable abbrev eV:= @List.getElem?_eq_getElem
noncomputable abbrev cH:=λ{α:Type _} {a b:α} {l:List α}=>(List.mem_cons (a:=a) (b:=b) (l:=l)).mp
noncomputable abbrev eX:=λ{α:Type _} [BEq α] [LawfulBEq α] {a b:α}=>(beq_eq_false_iff_ne (a:=a) (b:=b)).mpr
noncomputable abbrev bS:= @Nat.le_refl
noncomputable abbrev cy:= @Nat.le_trans
noncomputable abbrev cV:= @Nat.ne_of_lt
noncomputable abbrev fJ:= @Nat.lt_of_le_of_lt
noncomputable abbrev fD:= @Int.natCast_nonneg
noncomputable abbrev dq:= @List.length_cons
noncomputable abbrev dZ:= @List.map_cons
noncomputable abbrev eG:= @List.map_append
noncomputable abbrev fI:= @Heap.get?_push_of_some
noncomputable abbrev cY:= @wpAny_of_eq
noncomputable abbrev gU:= @builtinLookup_eq_fast
noncomputable abbrev gT:= @typeLookup_type
noncomputable abbrev fm:= @wpAny_specialOf
noncomputable abbrev dT:= @typeIs_bytes
noncomputable abbrev gf:=λ{α:Type _} {a:α} {s t:List α}=>(List.mem_append (a:=a) (s:=s) (t:=t)).mp
noncomputable abbrev jb:=λ{x y:Bool}=>(@Bool.and_eq_true_iff x y).mp
noncomputable abbrev iW:= @List.getElem?_map
noncomputable abbrev gH:=λ{α β:Type _} {f:α->β} {l:List α} {b:β}=>(List.mem_map (f:=f) (l:=l) (b:=b)).mp
noncomputable abbrev dR:= @Nat.lt_trans
noncomputable abbrev gR:= @Nat.le_add_right
noncomputable abbrev ip:= @List.mem_map_of_mem
noncomputable abbrev iu:= @beq_self_eq_true
noncomputable abbrev eW:= @sizeLine_eq
end Mine
namespace Mine
theorem yb {C:Prop}(h:false=true):C:=by cases h
theorem Cg {C:Prop}(h:true=false):C:=by cases h
theorem nh {α:Type _}{a:α}{C:Prop}(h:none=some a):C:=by cases h
theorem E6 {α:Type _}{a:α}{C:Prop}(h:some a=none):C:=by cases h
theorem j1 {α:Type _}{a:α}{C:Prop}(h:a∈ []):C:=by cases h
theorem ZD {α:Type _}{a:α}{r:List α}{C:Prop}(h: []=a::r):C:=by cases h
theorem W7 {α:Type _}{a:α}{r:List α}{C:Prop}(h:a::r= []):C:=by cases h
theorem Og {n:Nat}{C:Prop}(h:0=n+1):C:=by cases h
theorem Vv {n:Nat}{C:Prop}(h:n+1=0):C:=by cases h
theorem lA {a b c:Nat}(h:a<=b)(k:Nat.ble b c=true):a<=c:=cy h (Nat.le_of_ble_eq_true k)
theorem lB {a b c:Nat}(h:a<b)(k:Nat.ble b c=true):a<c:=Nat.lt_of_lt_of_le h (Nat.le_of_ble_eq_true k)
theorem lC {a b c:Nat}(h:a<=b)(k:Nat.ble (b+1) c=true):a<c:=fJ h (Nat.le_of_ble_eq_true k)
theorem lD {a b c:Nat}(h:a<b)(k:Nat.ble b (c+1)=true):a<=c:=Nat.le_of_lt_succ (lB h k)
theorem lE {a b:Nat}(k:Nat.ble a b=true):a<=b:=Nat.le_of_ble_eq_true k
theorem iA {a b c:Int}(h:a<=b)(k:decide (b<=c)=true):a<=c:=Int.le_trans h (of_decide_eq_true k)
theorem iB {a b c:Int}(h:a<b)(k:decide (b<=c)=true):a<c:=Int.lt_of_lt_of_le h (of_decide_eq_true k)
theorem iC {a b c:Int}(h:a<=b)(k:decide (b<c)=true):a<c:=Int.lt_of_le_of_lt h (of_decide_eq_true k)
theorem iD {a b c:Int}(h:a<b)(k:decide (b<=c)=true):a<=c:=Int.le_of_lt (iB h k)
theorem iE {a b:Nat}{c:Int}(h:a<=b)(k:decide ((b:Int)<=c)=true):(a:Int)<=c:=iA (Int.ofNat_le.mpr h) k
theorem iF {a b:Nat}{c:Int}(h:a<b)(k:decide ((b:Int)<=c)=true):(a:Int)<c:=iB (Int.ofNat_lt.mpr h) k
theorem iG {a b:Nat}{c:Int}(h:a<=b)(k:decide ((b:Int)<c)=true):(a:Int)<c:=iC (Int.ofNat_le.mpr h) k
theorem iH {a:Nat}(h:a≠0):(0:Int)<a:=Int.ofNat_lt.mpr (Nat.pos_of_ne_zero h)
theorem iI {a:Nat}(h:a<0){C:Prop}:C:=(Nat.not_lt_zero a h).elim
theorem iJ {a b c:Int}(h:a<=b)(k:decide (c<=a)=true):c<=b:=Int.le_trans (of_decide_eq_true k) h
theorem iK {a b c:Int}(h:a<b)(k:decide (c<=a)=true):c<b:=Int.lt_of_le_of_lt (of_decide_eq_true k) h
theorem Zz {a b c:Int}(h:a<b)(k:decide (c<=a)=true):c<=b:=Int.le_of_lt (iK h k)
theorem iN {a b:Int}(h:a<b):¬a=b:=Int.ne_of_lt h
theorem iO {a b:Int}(h:a<b):¬b=a:=λe=>Int.ne_of_lt h e.symm
theorem iP {a b:Int}(h:a<b):¬b<a:=Int.not_lt.mpr (Int.le_of_lt h)
theorem iQ {a b:Int}(h:a<b):¬b<=a:=Int.not_le.mpr h
theorem iR {a b:Int}(h:a<=b):¬b<a:=Int.not_lt.mpr h
theorem rB {p0 p1 p2:Prop}(h:p0/\p1/\p2){C:Prop}(k:p0->p1->p2->C):C:=k h.1 h.2.1 h.2.2
theorem SD {p0 p1 p2 p3:Prop}(h:p0/\p1/\p2/\p3){C:Prop}(k:p0->p1->p2->p3->C):C:=k h.1 h.2.1 h.2.2.1 h.2.2.2
theorem Tx {p0 p1 p2 p3 p4:Prop}(h:p0/\p1/\p2/\p3/\p4){C:Prop}(k:p0->p1->p2->p3->p4->C):C:=k h.1 h.2.1 h.2.2.1 h.2.2.2.1 h.2.2.2.2
theorem aZ {α0:Sort _}{p0 p1:α0->Prop}(h:∃x0,p0 x0/\p1 x0){C:Prop}(k:∀x0,p0 x0->p1 x0->C):C:=h.elim λx0 z=>k x0 z.1 z.2
theorem mq {α0:Sort _}{p0 p1 p2:α0->Prop}(h:∃x0,p0 x0/\p1 x0/\p2 x0){C:Prop}(k:∀x0,p0 x0->p1 x0->p2 x0->C):C:=h.elim λx0 z=>k x0 z.1 z.2.1 z.2.2
theorem Kc {α0:Sort _}{p0 p1 p2 p3:α0->Prop}(h:∃x0,p0 x0/\p1 x0/\p2 x0/\p3 x0){C:Prop}(k:∀x0,p0 x0->p1 x0->p2 x0->p3 x0->C):C:=h.elim λx0 z=>k x0 z.1 z.2.1 z.2.2.1 z.2.2.2
theorem Ad {α0:Sort _}{α1:Sort _}{p0:α0->α1->Prop}(h:∃x0 x1,p0 x0 x1){C:Prop}(k:∀x0 x1,p0 x0 x1->C):C:=h.elim λx0 h=>(h.elim λx1 z=>k x0 x1 z)
theorem uy {α0:Sort _}{α1:Sort _}{p0 p1:α0->α1->Prop}(h:∃x0 x1,p0 x0 x1/\p1 x0 x1){C:Prop}(k:∀x0 x1,p0 x0 x1->p1 x0 x1->C):C:=h.elim λx0 h=>(h.elim λx1 z=>k x0 x1 z.1 z.2)
theorem j8 {α0:Sort _}{α1:Sort _}{p0 p1 p2:α0->α1->Prop}(h:∃x0 x1,p0 x0 x1/\p1 x0 x1/\p2 x0 x1){C:Prop}(k:∀x0 x1,p0 x0 x1->p1 x0 x1->p2 x0 x1->C):C:=h.elim λx0 h=>(h.elim λx1 z=>k x0 x1 z.1 z.2.1 z.2.2)
theorem x7 {α0:Sort _}{α1:Sort _}{p0 p1 p2 p3:α0->α1->Prop}(h:∃x0 x1,p0 x0 x1/\p1 x0 x1/\p2 x0 x1/\p3 x0 x1){C:Prop}(k:∀x0 x1,p0 x0 x1->p1 x0 x1->p2 x0 x1->p3 x0 x1->C):C:=h.elim λx0 h=>(h.elim λx1 z=>k x0 x1 z.1 z.2.1 z.2.2.1 z.2.2.2)
theorem LL {α0:Sort _}{α1:Sort _}{p0 p1 p2 p3 p4:α0->α1->Prop}(h:∃x0 x1,p0 x0 x1/\p1 x0 x1/\p2 x0 x1/\p3 x0 x1/\p4 x0 x1){C:Prop}(k:∀x0 x1,p0 x0 x1->p1 x0 x1->p2 x0 x1->p3 x0 x1->p4 x0 x1->C):C:=h.elim λx0 h=>(h.elim λx1 z=>k x0 x1 z.1 z.2.1 z.2.2.1 z.2.2.2.1 z.2.2.2.2)
theorem Re {α0:Sort _}{α1:Sort _}{α2:Sort _}{p0 p1:α0->α1->α2->Prop}(h:∃x0 x1 x2,p0 x0 x1 x2/\p1 x0 x1 x2){C:Prop}(k:∀x0 x1 x2,p0 x0 x1 x2->p1 x0 x1 x2->C):C:=h.elim λx0 h=>(h.elim λx1 h=>(h.elim λx2 z=>k x0 x1 x2 z.1 z.2))
theorem XG {α0:Sort _}{α1:Sort _}{α2:Sort _}{p0 p1 p2:α0->α1->α2->Prop}(h:∃x0 x1 x2,p0 x0 x1 x2/\p1 x0 x1 x2/\p2 x0 x1 x2){C:Prop}(k:∀x0 x1 x2,p0 x0 x1 x2->p1 x0 x1 x2->p2 x0 x1 x2->C):C:=h.elim λx0 h=>(h.elim λx1 h=>(h.elim λx2 z=>k x0 x1 x2 z.1 z.2.1 z.2.2))
theorem HV {α0:Sort _}{α1:Sort _}{α2:Sort _}{p0 p1 p2 p3:α0->α1->α2->Prop}(h:∃x0 x1 x2,p0 x0 x1 x2/\p1 x0 x1 x2/\p2 x0 x1 x2/\p3 x0 x1 x2){C:Prop}(k:∀x0 x1 x2,p0 x0 x1 x2->p1 x0 x1 x2->p2 x0 x1 x2->p3 x0 x1 x2->C):C:=h.elim λx0 h=>(h.elim λx1 h=>(h.elim λx2 z=>k x0 x1 x2 z.1 z.2.1 z.2.2.1 z.2.2.2))
theorem Yq {α0:Sort _}{α1:Sort _}{α2:Sort _}{p0 p1 p2 p3 p4 p5:α0->α1->α2->Prop}(h:∃x0 x1 x2,p0 x0 x1 x2/\p1 x0 x1 x2/\p2 x0 x1 x2/\p3 x0 x1 x2/\p4 x0 x1 x2/\p5 x0 x1 x2){C:Prop}(k:∀x0 x1 x2,p0 x0 x1 x2->p1 x0 x1 x2->p2 x0 x1 x2->p3 x0 x1 x2->p4 x0 x1 x2->p5 x0 x1 x2->C):C:=h.elim λx0 h=>(h.elim λx1 h=>(h.elim λx2 z=>k x0 x1 x2 z.1 z.2.1 z.2.2.1 z.2.2.2.1 z.2.2.2.2.1 z.2.2.2.2.2))
theorem Y1 {α0:Sort _}{α1:Sort _}{α2:Sort _}{α3:Sort _}{p0 p1:α0->α1->α2->α3->Prop}(h:∃x0 x1 x2 x3,p0 x0 x1 x2 x3/\p1 x0 x1 x2 x3){C:Prop}(k:∀x0 x1 x2 x3,p0 x0 x1 x2 x3->p1 x0 x1 x2 x3->C):C:=h.elim λx0 h=>(h.elim λx1 h=>(h.elim λx2 h=>(h.elim λx3 z=>k x0 x1 x2 x3 z.1 z.2)))
theorem St {α0:Sort _}{α1:Sort _}{α2:Sort _}{α3:Sort _}{p0 p1 p2 p3:α0->α1->α2->α3->Prop}(h:∃x0 x1 x2 x3,p0 x0 x1 x2 x3/\p1 x0 x1 x2 x3/\p2 x0 x1 x2 x3/\p3 x0 x1 x2 x3){C:Prop}(k:∀x0 x1 x2 x3,p0 x0 x1 x2 x3->p1 x0 x1 x2 x3->p2 x0 x1 x2 x3->p3 x0 x1 x2 x3->C):C:=h.elim λx0 h=>(h.elim λx1 h=>(h.elim λx2 h=>(h.elim λx3 z=>k x0 x1 x2 x3 z.1 z.2.1 z.2.2.1 z.2.2.2)))
theorem BL {α0:Sort _}{α1:Sort _}{α2:Sort _}{α3:Sort _}{p0 p1 p2 p3 p4:α0->α1->α2->α3->Prop}(h:∃x0 x1 x2 x3,p0 x0 x1 x2 x3/\p1 x0 x1 x2 x3/\p2 x0 x1 x2 x3/\p3 x0 x1 x2 x3/\p4 x0 x1 x2 x3){C:Prop}(k:∀x0 x1 x2 x3,p0 x0 x1 x2 x3->p1 x0 x1 x2 x3->p2 x0 x1 x2 x3->p3 x0 x1 x2 x3->p4 x0 x1 x2 x3->C):C:=h.elim λx0 h=>(h.elim λx1 h=>(h.elim λx2 h=>(h.elim λx3 z=>k x0 x1 x2 x3 z.1 z.2.1 z.2.2.1 z.2.2.2.1 z.2.2.2.2)))
end Mine
namespace Mine
open PySem
noncomputable abbrev By:=List Int
inductive SV where
 |none|bool (b:Bool)|int (i:Int)|bytes (b:By)|text
 |tuple (vs:List SV)|range (lo hi:Int)|ref (i:Nat)
inductive SO where
 |list (vs:List SV)|aM|cg (es:List (By×SV))|dB (es:List (Int×SV))|cw (b:By)|inst (c:Nat) (fs:List (Nat×SV))
noncomputable abbrev HP:=List SO
noncomputable abbrev cR:=List (Option SV)
inductive wA|add|sub|mul|fdiv|mod|band|bor|shl|shr
 deriving DecidableEq
inductive Mq|eq|ne|lt|le|gt|ge|is|gm|isIn
 deriving DecidableEq
inductive Bi|len|bytes|bytearray|range|list|tuple|sorted|min|sum
 deriving DecidableEq
mutual
inductive SE where
 |none|bool (b:Bool)|int (i:Int)|bytes (b:By)|text
 |loc (i:Nat)
 |attr (e:SE) (a:Nat)
 |sub (e i:SE)
 |slice (e lo hi:SE)
 |bin (op:wA) (a b:SE)
 |neg (a:SE)
 |cmp (op:Mq) (a b:SE)
 |and (es:nH)|or (es:nH)|not (a:SE)
 |ite (c a b:SE)
 |tuple (es:nH)|list (es:nH)|aM
 |fT (f:Nat) (as:nH)|callC (c:Nat) (as:nH)|bH (b:Bi) (as:nH)|ez (e:SE) (m:Nat) (as:nH)
 |AH (as:nH)|xK (a:SE)|zU (a:SE)
inductive nH where
 |nil|cons (h:SE) (t:nH)
end
inductive ST where
 |name (i:Nat)|attr (e:SE) (a:Nat)|sub (e i:SE)|tup (is:List Nat)
inductive HS where
 |jN|setB (i:Nat) (b:Bool)|inc (i:Nat) (k:Int)|raise (c:Nat)
inductive EK where
 |one (e:SE)|pair (a b:SE)
mutual
inductive SS where
 |bad|pass|cont
 |expr (e:SE)
 |j3 (t:ST) (e:SE)
 |comp (i w:Nat) (k:EK) (t:Option (SE×SE)) (it:SE)
 |kU (i w:Nat) (k:EK) (it:SE)
 |qh (i:Nat) (op:wA) (e:SE)|sK (o:SE) (a:Nat) (op:wA) (e:SE)
 |ret (e:SE)
 |ifs (c:SE) (a b:cA)
 |jd (is:List Nat) (it:SE) (b:cA)
 |xB (c:SE) (b:cA)
 |raise (c:Nat) (msg:SE)
 |lM (b:cA) (c:Nat) (h:HS)
 |del (e i:SE)
inductive cA where
 |nil|cons (h:SS) (t:cA)
end
inductive GV where
 |fn (i:Nat)|cls (i:Nat)|bi (b:Bi)|int (i:Int)|bytes (b:By)
structure Fn where
 name:String
 fV:Nat
 dflt:List SV
 oj:Nat
 cells:Bool
 body:cA
inductive du (α:Type) where
 |ok (a:α) (H:HP)|exc (c:Nat) (H:HP)|bad
noncomputable def du.bind {α β:Type}:du α->(α->HP->du β)->du β
 | .ok a H,f=>f a H
 | .exc c H,_=> .exc c H
 | .bad,_=> .bad
inductive cQ where
 |next (l:cR) (H:HP)|cont (l:cR) (H:HP)|ret (v:SV) (H:HP)|exc (c:Nat) (l:cR) (H:HP)|jp (c:Nat) (H:HP)|bad
noncomputable def du.then {α:Type}(o:du α)(l:cR)(f:α->HP->cQ):cQ:=match o with
 | .ok a H=>f a H
 | .exc c H=> .exc c l H
 | .bad=> .bad
noncomputable def big:Nat:=4096
noncomputable def uD (f:SV->SV->Option Bool):List SV->List SV->Option Bool
 | [], []=>some true
 | [],_::_=>some false
 |_::_, []=>some false
 |x::xs,y::ys=>match f x y,uD f xs ys with
  |some a,some b=>some (a&&b)
  |_,_=>none
noncomputable def ud:Nat->SV->SV->Option Bool
 |0,_,_=>none
 |n+1,a,b=>match a,b with
  | .none, .none=>some true
  | .none, .bytes _=>some false
  | .bytes _, .none=>some false
  | .none, .tuple _=>some false
  | .tuple _, .none=>some false
  | .bool a, .bool b=>some (a==b)
  | .int a, .int b=>some (a==b)
  | .bytes a, .bytes b=>some (a==b)
  | .tuple a, .tuple b=>uD (ud n) a b
  |_,_=>none
noncomputable def AX:Nat:=6
noncomputable def hV:By->By->Bool
 | [], []=>false
 | [],_::_=>true
 |_::_, []=>false
 |x::xs,y::ys=>if x<y then true else if x=y then hV xs ys else false
section
variable {K:Type}[DecidableEq K]
noncomputable def fR (k:K):List (K×SV)->Option SV
 | []=>none
 |p::r=>if p.1=k then some p.2 else fR k r
noncomputable def kM (k:K)(v:SV):List (K×SV)->List (K×SV)
 | []=> [(k,v)]
 |p::r=>if p.1=k then (p.1,v)::r else p::kM k v r
noncomputable def p8 (k:K):List (K×SV)->List (K×SV)
 | []=> []
 |p::r=>if p.1=k then r else p::p8 k r
theorem AA (k:K)(v:SV)(p:K×SV)(r:List (K×SV)):kM k v (p::r)=if p.1=k then (p.1,v)::r else p::kM k v r:=rfl
theorem zk (k:K)(p:K×SV)(r:List (K×SV)):p8 k (p::r)=if p.1=k then r else p::p8 k r:=rfl
end
noncomputable def hZ (k:SV)(o:SO):Option (Option SV):=match o,k with
 | .aM, .int _=>some none
 | .aM, .bytes _=>some none
 | .cg es, .bytes b=>some (fR b es)
 | .dB es, .int i=>some (fR i es)
 |_,_=>none
noncomputable def uG (k v:SV)(o:SO):Option SO:=match o,k with
 | .aM, .int i=>some (.dB [(i,v)])
 | .aM, .bytes b=>some (.cg [(b,v)])
 | .cg es, .bytes b=>if es.length<big then some (.cg (kM b v es)) else none
 | .dB es, .int i=>if es.length<big then some (.dB (kM i v es)) else none
 |_,_=>none
noncomputable def yg (k:SV)(o:SO):Option SO:=match o,k with
 | .cg es, .bytes b=>if (fR b es).isSome then some (.cg (p8 b es)) else none
 |_,_=>none
noncomputable def fO (a:Nat):List (Nat×SV)->Option SV
 | []=>none
 |p::r=>if p.1=a then some p.2 else fO a r
noncomputable def km (a:Nat)(v:SV):List (Nat×SV)->List (Nat×SV)
 | []=> [(a,v)]
 |p::r=>if p.1=a then (p.1,v)::r else p::km a v r
theorem D4 (a:Nat)(p:Nat×SV)(r:List (Nat×SV)):fO a (p::r)=if p.1=a then some p.2 else fO a r:=rfl
theorem AE (a:Nat)(v:SV)(p:Nat×SV)(r:List (Nat×SV)):km a v (p::r)=if p.1=a then (p.1,v)::r else p::km a v r:=rfl
noncomputable def cF (op:wA)(a b:SV)(H:HP):du SV:=match a,b with
 | .int a, .int b=>match op with
  | .add=> .ok (.int (a+b)) H
  | .sub=> .ok (.int (a - b)) H
  | .mul=>if a.natAbs<4294967296 then .ok (.int (a*b)) H else .bad
  | .fdiv=>if 0<b/\b<1000000000 then .ok (.int (a/b)) H else .bad
  | .mod=>if 0<b/\b<1000000000 then .ok (.int (a%b)) H else .bad
  | .band=> .ok (.int (Builtin.bitAnd a b)) H
  | .bor=> .ok (.int (Builtin.bitOr a b)) H
  | .shl=>if 0<=b/\b<=64/\a.natAbs<4294967296 then .ok (.int (a*2^b.toNat)) H else .bad
  | .shr=>if 0<=b/\b<=64 then .ok (.int (a/2^b.toNat)) H else .bad
 | .bytes a, .bytes b=>match op with
  | .add=>if a.length+b.length<=big then .ok (.bytes (a++b)) H else .bad
  |_=> .bad
 | .ref i, .ref j=>match op,H[i]?,H[j]? with
  | .add,some (.list a),some (.list b)=>if a.length+b.length<=big then .ok (.ref H.length) (H++ [.list (a++b)]) else .bad
  |_,_,_=> .bad
 |_,_=> .bad
noncomputable def pi:SV->Bool
 | .none=>true
 |_=>false
noncomputable def bU (op:Mq)(a b:SV)(H:HP):Option Bool:=match op with
 | .is=>match b with
  | .none=>some (pi a)
  |_=>none
 | .gm=>match b with
  | .none=>some (!pi a)
  |_=>none
 | .eq=>match a,b with
  | .ref i, .ref j=>match H[i]?,H[j]? with
   |some (.list x),some (.list y)=>if x.length=y.length then uD (ud AX) x y else some false
   |_,_=>none
  |a,b=>ud AX a b
 | .ne=>match a,b with
  | .ref i, .ref j=>match H[i]?,H[j]? with
   |some (.list x),some (.list y)=>if x.length=y.length then (uD (ud AX) x y).map (!·) else some true
   |_,_=>none
  |a,b=>(ud AX a b).map (!·)
 | .lt=>match a,b with
  | .int a, .int b=>some (decide (a<b))
  | .bytes a, .bytes b=>some (hV a b)
  |_,_=>none
 | .le=>match a,b with
  | .int a, .int b=>some (decide (a<=b))
  |_,_=>none
 | .gt=>match a,b with
  | .int a, .int b=>some (decide (b<a))
  |_,_=>none
 | .ge=>match a,b with
  | .int a, .int b=>some (decide (b<=a))
  | .bytes a, .bytes b=>some (!hV a b)
  |_,_=>none
 | .isIn=>match b with
  | .ref j=>match H[j]? with
   |some o=>(hZ a o).map (·.isSome)
   |none=>none
  |_=>none
noncomputable def eP (v:SV)(H:HP):Option Bool:=match v with
 | .bool b=>some b
 | .ref i=>match H[i]? with
  |some (.list vs)=>some (!vs.isEmpty)
  |_=>none
 |_=>none
noncomputable def cu (i:Int)(n:Nat):Nat:=if 0<=i then i.toNat else (i+n).toNat
noncomputable def cP (i:Int)(n:Nat):Bool:=decide (-(n:Int)<=i)&&decide (i<n)
noncomputable def dH (o i:SV)(H:HP):du SV:=match o,i with
 | .bytes b, .int i=>if cP i b.length then .ok (.int (b.getD (cu i b.length) 0)) H else .bad
 | .tuple vs, .int i=>match cP i vs.length,vs[cu i vs.length]? with
  |true,some v=> .ok v H
  |_,_=> .bad
 | .ref r,i=>match H[r]? with
  |some (.list vs)=>match i with
   | .int i=>match cP i vs.length,vs[cu i vs.length]? with
    |true,some v=> .ok v H
    |_,_=> .bad
   |_=> .bad
  |some o=>match hZ i o with
   |some (some v)=> .ok v H
   |_=> .bad
  |none=> .bad
 |_,_=> .bad
noncomputable def lI {α:Type}(l:List α)(lo hi:SV):Option (List α):=match lo,hi with
 | .none, .int h=>if 0<=h then some (l.take h.toNat) else none
 | .int a, .none=>if 0<=a then some (l.drop a.toNat) else none
 | .int a, .int h=>if 0<=a/\0<=h then some ((l.take h.toNat).drop a.toNat) else none
 |_,_=>none
noncomputable def f8 (o lo hi:SV)(H:HP):du SV:=match o with
 | .bytes b=>match lI b lo hi with
  |some c=> .ok (.bytes c) H
  |none=> .bad
 | .tuple vs=>match lo,hi with
  | .int a, .int h=>if 1<=a/\a<=h/\h<=vs.length then .ok (.tuple ((vs.take h.toNat).drop a.toNat)) H else .bad
  |_,_=> .bad
 | .ref r=>match H[r]? with
  |some (.list vs)=>match lI vs lo hi with
   |some c=> .ok (.ref H.length) (H++ [.list c])
   |none=> .bad
  |_=> .bad
 |_=> .bad
noncomputable def bT:List SV->Option (List Int)
 | []=>some []
 | .int i::r=>match bT r with
  |some l=>some (i::l)
  |none=>none
 |_::_=>none
noncomputable def xm (x:Int):List Int->List Int
 | []=> [x]
 |y::r=>if x<y then x::y::r else y::xm x r
noncomputable def jJ:List Int->List Int
 | []=> []
 |x::r=>xm x (jJ r)
noncomputable def td (x:By):List By->List By
 | []=> [x]
 |y::r=>if hV x y then x::y::r else y::td x r
theorem EC (x y:Int)(r:List Int):xm x (y::r)=if x<y then x::y::r else y::xm x r:=rfl
theorem FZ (x y:By)(r:List By):td x (y::r)=if hV x y then x::y::r else y::td x r:=rfl
theorem QA (x y:Int)(r q:By):hV (x::r) (y::q)=if x<y then true else if x=y then hV r q else false:=rfl
theorem Fw (i:Int)(r:List SV):bT (.int i::r)=match bT r with
  |some l=>some (i::l)
  |none=>none:=rfl
noncomputable def jF:List By->List By
 | []=> []
 |x::r=>td x (jF r)
noncomputable def fq (lo hi:Int):List Int:=(List.range (hi - lo).toNat).map λk=>lo+(k:Nat)
noncomputable def lJ (l:List Int):Bool:=l.all λi=>decide (0<=i)&&decide (i<256)
noncomputable def yp (b:Bi)(v:SV)(H:HP):du SV:=match b with
 | .len=>match v with
  | .bytes b=> .ok (.int b.length) H
  | .tuple vs=> .ok (.int vs.length) H
  | .ref r=>match H[r]? with
   |some (.list vs)=> .ok (.int vs.length) H
   |_=> .bad
  |_=> .bad
 | .bytes=>match v with
  | .bytes b=> .ok (.bytes b) H
  | .range lo hi=>if 0<=lo/\hi<=256 then .ok (.bytes (fq lo hi)) H else .bad
  | .ref r=>match H[r]? with
   |some (.cw b)=> .ok (.bytes b) H
   |some (.list vs)=>match bT vs with
    |some l=>if lJ l then .ok (.bytes l) H else .bad
    |none=> .bad
   |_=> .bad
  |_=> .bad
 | .bytearray=> .bad
 | .range=>match v with
  | .int n=>if n<=4096/\0<=n then .ok (.range 0 n) H else .bad
  |_=> .bad
 | .list=>match v with
  | .ref r=>match H[r]? with
   |some (.list vs)=> .ok (.ref H.length) (H++ [.list vs])
   |_=> .bad
  | .range lo hi=> .ok (.ref H.length) (H++ [.list ((fq lo hi).map .int)])
  |_=> .bad
 | .tuple=>match v with
  | .ref r=>match H[r]? with
   |some (.list vs)=> .ok (.tuple vs) H
   |_=> .bad
  | .range lo hi=> .ok (.tuple ((fq lo hi).map .int)) H
  |_=> .bad
 | .sorted=>match v with
  | .ref r=>match H[r]? with
   |some (.list vs)=>match bT vs with
    |some l=>if l.length<64 then .ok (.ref H.length) (H++ [.list ((jJ l).map .int)]) else .bad
    |none=> .bad
   |some (.cg es)=>if es.length<64 then .ok (.ref H.length) (H++ [.list ((jF (es.map (·.1))).map .bytes)]) else .bad
   |some .aM=> .ok (.ref H.length) (H++ [.list []])
   |_=> .bad
  |_=> .bad
 | .min=> .bad
 | .sum=>match v with
  | .ref r=>match H[r]? with
   |some (.list vs)=>match bT vs with
    |some l=> .ok (.int l.sum) H
    |none=> .bad
   |_=> .bad
  |_=> .bad
noncomputable def x6 (b:Bi)(v w:SV)(H:HP):du SV:=match v,w with
 | .int a, .int n=>match b with
  | .range=>if 0<=a/\a<=n/\n<=4096 then .ok (.range a n) H else .bad
  | .min=> .ok (.int (if n<a then n else a)) H
  |_=> .bad
 |_,_=> .bad
noncomputable def bH (b:Bi)(as:List SV)(H:HP):du SV:=match as with
 | []=>if b= .bytearray then .ok (.ref H.length) (H++ [.cw []]) else .bad
 | [v]=>yp b v H
 | [v,w]=>x6 b v w H
 |_=> .bad
structure MC where
 append:Nat
 extend:Nat
 get:Nat
noncomputable def mx (i:Int):Bool:=decide (0<=i)&&decide (i<256)
inductive MK where
 |fn (f:Nat)|ng|pr|pB|iV
structure PI where
 fns:List Fn
 field:Nat->Nat->Bool
 ma:Nat->Nat->Option Nat
 init:Nat->Option Nat
 mc:MC
noncomputable abbrev au:=Nat->List SV->HP->du SV
noncomputable def eC (v:SV)(a:Nat)(H:HP):du SV:=match v with
 | .ref r=>match H[r]? with
  |some (.inst _ fs)=>match fO a fs with
   |some v=> .ok v H
   |none=> .bad
  |_=> .bad
 |_=> .bad
noncomputable def d6 (P:PI)(o:SV)(m:Nat)(H:HP):Option MK:=match o with
 | .ref r=>match H[r]? with
  |some (.inst c fs)=>match P.ma c m,fO m fs with
   |some f,none=>some (.fn f)
   |_,_=>none
  |some (.list _)=>if m=P.mc.append then some .ng else none
  |some (.cw _)=>if m=P.mc.append then some .pr else if m=P.mc.extend then some .pB else none
  |some .aM=>if m=P.mc.get then some .iV else none
  |some (.cg _)=>if m=P.mc.get then some .iV else none
  |some (.dB _)=>if m=P.mc.get then some .iV else none
  |none=>none
 |_=>none
noncomputable def dl (R:au)(k:MK)(o:SV)(as:List SV)(H:HP):du SV:=match k with
 | .fn f=>R f (o::as) H
 | .ng=>match o,as with
  | .ref r, [v]=>match H[r]? with
   |some (.list vs)=>if vs.length<big then .ok .none (H.set r (.list (vs++ [v]))) else .bad
   |_=> .bad
  |_,_=> .bad
 | .pr=>match o,as with
  | .ref r, [.int i]=>match H[r]? with
   |some (.cw b)=>if mx i=true/\b.length<big then .ok .none (H.set r (.cw (b++ [i]))) else .bad
   |_=> .bad
  |_,_=> .bad
 | .pB=>match o,as with
  | .ref r, [.bytes c]=>match H[r]? with
   |some (.cw b)=>if b.length+c.length<=big then .ok .none (H.set r (.cw (b++c))) else .bad
   |_=> .bad
  |_,_=> .bad
 | .iV=>match o,as with
  | .ref r, [k]=>match H[r]? with
   |some o=>match hZ k o with
    |some x=> .ok (x.getD .none) H
    |none=> .bad
   |none=> .bad
  |_,_=> .bad
noncomputable def kP (P:PI)(R:au)(c:Nat)(as:List SV)(H:HP):du SV:=match P.init c with
 |some f=>(R f (.ref H.length::as) (H++ [.inst c []])).bind λv H' =>match v with
  | .none=> .ok (.ref H.length) H'
  |_=> .bad
 |none=> .bad
noncomputable def al (l:cR)(i:Nat)(v:SV):cR:=l.set i (some v)
noncomputable def dJ:cR->List Nat->List SV->cR
 |l,i::is,v::vs=>dJ (al l i v) is vs
 |l,_,_=>l
noncomputable def kH (l:cR)(XL:List Nat)(v:SV):Option cR:=match XL,v with
 | [i],v=>some (al l i v)
 |is, .tuple vs=>if is.length=vs.length then some (dJ l is vs) else none
 |_,_=>none
noncomputable def ff {α:Type}(o:Option α)(H:HP):du α:=match o with
 |some a=> .ok a H
 |none=> .bad
noncomputable def ct (it:SV)(k:Nat)(H:HP):Option (Option SV):=match it with
 | .range lo hi=>some (if lo+(k:Int)<hi then some (.int (lo+k)) else none)
 | .bytes b=>some ((b[k]?).map .int)
 | .ref r=>match H[r]? with
  |some (.list vs)=>some vs[k]?
  |_=>none
 |_=>none
noncomputable def fa (it:SV)(H:HP):Nat:=match it with
 | .range lo hi=>(hi - lo).toNat
 | .bytes b=>b.length
 | .ref r=>match H[r]? with
  |some (.list vs)=>vs.length
  |_=>0
 |_=>0
noncomputable def Nc (l:cR)(cv:List SV)(i:Nat):Option SV:=if i<1000 then (match l[i]? with
 |some (some v)=>some v
 |_=>none) else cv[i - 1000]?
noncomputable def Ia (op:wA)(a b:SV):Option SV:=match a,b with
 | .int x, .int y=>(match op with
  | .mod=>if 0<y/\y<1000000000 then some (.int (x%y)) else none
  |_=>none)
 | .bytes x, .bytes y=>(match op with
  | .add=>if x.length+y.length<=big then some (.bytes (x++y)) else none
  |_=>none)
 |_,_=>none
noncomputable def rn (a b:SV)(H:HP):Option SV:=match dH a b H with
 | .ok v _=>some v
 |_=>none
noncomputable def wN:SE->cR->List SV->HP->Option SV
 | .int i,_,_,_=>some (.int i)
 | .bytes b,_,_,_=>some (.bytes b)
 | .loc i,l,cv,_=>Nc l cv i
 | .sub a b,l,cv,H=>(wN a l cv H).bind λx=>(wN b l cv H).bind λy=>rn x y H
 | .bin op a b,l,cv,H=>(wN a l cv H).bind λx=>(wN b l cv H).bind λy=>Ia op x y
 |_,_,_,_=>none
noncomputable def MG (k:EK)(l:cR)(cv:List SV)(H:HP):Option SV:=match k with
 | .one e=>wN e l cv H
 | .pair a b=>(wN a l cv H).bind λx=>(wN b l cv H).bind λy=>some (.tuple [x,y])
noncomputable def oU (t:Option (SE×SE))(l:cR)(cv:List SV)(H:HP):Option Bool:=match t with
 |none=>some true
 |some (a,b)=>(wN a l cv H).bind λx=>(wN b l cv H).bind λy=>bU .eq x y H
noncomputable def oS (w:Nat)(v:SV):Option (List SV):=if w=1 then some [v] else match v with
 | .tuple vs=>if vs.length=w then some vs else none
 |_=>none
noncomputable def gD (w:Nat)(k:EK)(t:Option (SE×SE))(v:SV)(l:cR)(H:HP):Nat->Nat->Option (List SV)
 |0,_=>none
 |n+1,j=>match ct v j H with
  |none=>none
  |some none=>some []
  |some (some y)=>(oS w y).bind λcv=>(oU t l cv H).bind λb=>match b with
   |false=>gD w k t v l H n (j+1)
   |true=>(MG k l cv H).bind λx=>(gD w k t v l H n (j+1)).map (x:: ·)
theorem Fo (w:Nat)(k:EK)(t:Option (SE×SE))(v:SV)(l:cR)(H:HP)(n j:Nat):gD w k t v l H (n+1) j=match ct v j H with
  |none=>none
  |some none=>some []
  |some (some y)=>(oS w y).bind λcv=>(oU t l cv H).bind λb=>match b with
   |false=>gD w k t v l H n (j+1)
   |true=>(MG k l cv H).bind λx=>(gD w k t v l H n (j+1)).map (x:: ·):=rfl
noncomputable def ka:SV->Bool
 | .bytes _=>true
 |_=>false
noncomputable def gu (w:Nat)(k:EK)(t:Option (SE×SE))(v:SV)(l:cR)(H:HP):Option (List SV):=
 if ka v then none else (gD w k t v l H (fa v H+1) 0).bind λvs=>if vs.length<=big then some vs else none
noncomputable def dI:List SV->Bool
 | []=>true
 | .int i::r=>decide (0<=i)&&decide (i<100000)&&dI r
 |_::_=>false
section
variable (P:PI)(R:au)
mutual
noncomputable def bj:SE->cR->HP->du SV
 | .none,_,H=> .ok .none H
 | .bool b,_,H=> .ok (.bool b) H
 | .int i,_,H=> .ok (.int i) H
 | .bytes b,_,H=> .ok (.bytes b) H
 | .text,_,H=> .ok .text H
 | .loc i,l,H=>match l[i]? with
  |some (some v)=> .ok v H
  |_=> .bad
 | .attr e a,l,H=>(bj e l H).bind λv H=>eC v a H
 | .sub e i,l,H=>(bj e l H).bind λv H=>(bj i l H).bind λk H=>dH v k H
 | .slice e lo hi,l,H=>(bj e l H).bind λv H=>(bj lo l H).bind λa H=>(bj hi l H).bind λb H=>f8 v a b H
 | .bin op a b,l,H=>(bj a l H).bind λx H=>(bj b l H).bind λy H=>cF op x y H
 | .neg a,l,H=>(bj a l H).bind λx H=>match x with
  | .int i=> .ok (.int (-i)) H
  |_=> .bad
 | .cmp op a b,l,H=>(bj a l H).bind λx H=>(bj b l H).bind λy H=>(ff (bU op x y H) H).bind λr H=> .ok (.bool r) H
 | .and es,l,H=>Ho es l H
 | .or es,l,H=>Mn es l H
 | .not _,_,_=> .bad
 | .ite c a b,l,H=>(gK c l H).bind λt H=>match t with
  |true=>bj a l H
  |false=>bj b l H
 | .tuple es,l,H=>(dK es l H).bind λvs H=> .ok (.tuple vs) H
 | .list es,l,H=>(dK es l H).bind λvs H=> .ok (.ref H.length) (H++ [.list vs])
 | .aM,_,H=> .ok (.ref H.length) (H++ [.aM])
 | .fT f as,l,H=>(dK as l H).bind λvs H=>R f vs H
 | .callC c as,l,H=>(dK as l H).bind λvs H=>kP P R c vs H
 | .bH b as,l,H=>(dK as l H).bind λvs H=>bH b vs H
 | .ez o m as,l,H=>(bj o l H).bind λv H=>(ff (d6 P v m H) H).bind λk H=>(dK as l H).bind λvs H=>dl R k v vs H
 | .AH as,l,H=>(dK as l H).bind λvs H=>if dI vs then .ok .text H else .bad
 | .xK a,l,H=>(bj a l H).bind λv H=>if dI [v] then .ok .text H else .bad
 | .zU a,l,H=>(bj a l H).bind λv H=>if dI [v] then .ok .text H else .bad
noncomputable def gK:SE->cR->HP->du Bool
 | .not a,l,H=>(gK a l H).bind λb H=> .ok (!b) H
 | .and es,l,H=>pg es l H
 | .or es,l,H=>qX es l H
 | .cmp op a b,l,H=>(bj a l H).bind λx H=>(bj b l H).bind λy H=>ff (bU op x y H) H
 | .bool b,_,H=> .ok b H
 | .loc i,l,H=>match l[i]? with
  |some (some v)=>ff (eP v H) H
  |_=> .bad
 | .attr e a,l,H=>((bj e l H).bind λv H=>eC v a H).bind λv H=>ff (eP v H) H
 | .fT f as,l,H=>((dK as l H).bind λvs H=>R f vs H).bind λv H=>ff (eP v H) H
 | .ez o m as,l,H=>((bj o l H).bind λv H=>(ff (d6 P v m H) H).bind λk H=>(dK as l H).bind λvs H=>dl R k v vs H).bind λv H=>ff (eP v H) H
 |_,_,_=> .bad
noncomputable def Ho:nH->cR->HP->du SV
 | .nil,_,_=> .bad
 | .cons e r,l,H=>match r with
  | .nil=>bj e l H
  | .cons _ _=>(bj e l H).bind λx H=>(ff (eP x H) H).bind λt H=>match t with
   |true=>Ho r l H
   |false=> .ok x H
noncomputable def Mn:nH->cR->HP->du SV
 | .nil,_,_=> .bad
 | .cons e r,l,H=>match r with
  | .nil=>bj e l H
  | .cons _ _=>(bj e l H).bind λx H=>(ff (eP x H) H).bind λt H=>match t with
   |true=> .ok x H
   |false=>Mn r l H
noncomputable def pg:nH->cR->HP->du Bool
 | .nil,_,H=> .ok true H
 | .cons e r,l,H=>(gK e l H).bind λt H=>match t with
  |true=>pg r l H
  |false=> .ok false H
noncomputable def qX:nH->cR->HP->du Bool
 | .nil,_,H=> .ok false H
 | .cons e r,l,H=>(gK e l H).bind λt H=>match t with
  |true=> .ok true H
  |false=>qX r l H
noncomputable def dK:nH->cR->HP->du (List SV)
 | .nil,_,H=> .ok [] H
 | .cons e r,l,H=>(bj e l H).bind λv H=>(dK r l H).bind λvs H=> .ok (v::vs) H
end
noncomputable def bD (P:PI)(o:SV)(a:Nat)(v:SV)(H:HP):Option HP:=match o with
 | .ref r=>match H[r]? with
  |some (.inst c fs)=>if P.field c a=true/\fs.length<100 then some (H.set r (.inst c (km a v fs))) else none
  |_=>none
 |_=>none
noncomputable def jL (o k v:SV)(H:HP):Option HP:=match o with
 | .ref r=>match H[r]? with
  |some d=>match uG k v d with
   |some d=>some (H.set r d)
   |none=>none
  |none=>none
 |_=>none
noncomputable def hW (o k:SV)(H:HP):Option HP:=match o with
 | .ref r=>match H[r]? with
  |some d=>match yg k d with
   |some d=>some (H.set r d)
   |none=>none
  |none=>none
 |_=>none
noncomputable def Bm:ST->SV->cR->HP->cQ
 | .name i,v,l,H=> .next (al l i v) H
 | .tup is,v,l,H=>match v with
  | .tuple vs=>if is.length=vs.length then .next (dJ l is vs) H else .bad
  |_=> .bad
 | .attr e a,v,l,H=>(bj P R e l H).then l λo H=>match bD P o a v H with
  |some H=> .next l H
  |none=> .bad
 | .sub e i,v,l,H=>(bj P R e l H).then l λo H=>(bj P R i l H).then l λk H=>match jL o k v H with
  |some H=> .next l H
  |none=> .bad
noncomputable def forLoop (is:List Nat)(body:cR->HP->cQ)(it:SV):Nat->Nat->cR->HP->cQ
 |0,_,_,_=> .bad
 |n+1,k,l,H=>match ct it k H with
  |none=> .bad
  |some none=> .next l H
  |some (some v)=>match kH l is v with
   |some l=>match body l H with
    | .next l H=>forLoop is body it n (k+1) l H
    | .cont l H=>forLoop is body it n (k+1) l H
    | .ret v H=> .ret v H
    |_=> .bad
   |none=> .bad
theorem gj (is:List Nat)(body:cR->HP->cQ)(it:SV)(n k:Nat)(l:cR)(H:HP):forLoop is body it (n+1) k l H=match ct it k H with
  |none=> .bad
  |some none=> .next l H
  |some (some v)=>match kH l is v with
   |some l=>match body l H with
    | .next l H=>forLoop is body it n (k+1) l H
    | .cont l H=>forLoop is body it n (k+1) l H
    | .ret v H=> .ret v H
    |_=> .bad
   |none=> .bad:=rfl
noncomputable def whileLoop (test:cR->HP->du Bool)(body:cR->HP->cQ):Nat->cR->HP->cQ
 |0,_,_=> .bad
 |n+1,l,H=>match test l H with
  | .ok false H=> .next l H
  | .ok true H=>match body l H with
   | .next l H=>whileLoop test body n l H
   |_=> .bad
  |_=> .bad
theorem xc (test:cR->HP->du Bool)(body:cR->HP->cQ)(n:Nat)(l:cR)(H:HP):whileLoop test body (n+1) l H=match test l H with
  | .ok false H=> .next l H
  | .ok true H=>match body l H with
   | .next l H=>whileLoop test body n l H
   |_=> .bad
  |_=> .bad:=rfl
noncomputable def KC:HS->cR->HP->cQ
 | .jN,_,H=> .ret .none H
 | .setB i b,l,H=> .next (al l i (.bool b)) H
 | .inc i k,l,H=>match l[i]? with
  |some (some (.int a))=> .next (al l i (.int (a+k))) H
  |_=> .bad
 | .raise c,_,H=> .jp c H
mutual
noncomputable def gJ:SS->cR->HP->cQ
 | .bad,_,_=> .bad
 | .pass,l,H=> .next l H
 | .cont,l,H=> .cont l H
 | .expr e,l,H=>(bj P R e l H).then l λv H=>match v with
  | .none=> .next l H
  | .int _=> .next l H
  | .bytes _=> .next l H
  |_=> .bad
 | .j3 t e,l,H=>(bj P R e l H).then l λv H=>Bm P R t v l H
 | .comp i w k t it,l,H=>(bj P R it l H).then l λv H=>match gu w k t v l H with
  |some vs=> .next (al l i (.ref H.length)) (H++ [.list vs])
  |none=> .bad
 | .kU i w k it,l,H=>match l[i]? with
  |some (some (.ref r))=>(bj P R it l H).then l λv H=>match gu w k none v l H with
   |some vs=>(match H[r]? with
    |some (.list cx)=>if cx.length+vs.length<=big then .next (al l i (.ref (H.length+1))) ((H++ [.list vs])++ [.list (cx++vs)]) else .bad
    |_=> .bad)
   |none=> .bad
  |_=> .bad
 | .qh i op e,l,H=>match l[i]? with
  |some (some (.int a))=>(bj P R e l H).then l λv H=>match v with
   | .int b=>(cF op (.int a) (.int b) H).then l λv H=> .next (al l i v) H
   |_=> .bad
  |_=> .bad
 | .sK o a op e,l,H=>(bj P R o l H).then l λov H=>(eC ov a H).then l λx H=>(bj P R e l H).then l λy H=>match x,y with
  | .int i, .int j=>(cF op (.int i) (.int j) H).then l λv H=>match bD P ov a v H with
   |some H=> .next l H
   |none=> .bad
  |_,_=> .bad
 | .ret e,l,H=>(bj P R e l H).then l λv H=> .ret v H
 | .ifs c a b,l,H=>(gK P R c l H).then l λt H=>match t with
  |true=>aK a l H
  |false=>aK b l H
 | .jd is it b,l,H=>(bj P R it l H).then l λv H=>forLoop is (λl H=>aK b l H) v (fa v H+1) 0 l H
 | .xB c b,l,H=>whileLoop (λl H=>gK P R c l H) (λl H=>aK b l H) 64 l H
 | .raise c m,l,H=>(bj P R m l H).then l λv H=>match v with
  | .text=> .jp c H
  |_=> .bad
 | .lM b c h,l,H=>match aK b l H with
  | .exc c' l H=>if c' =c then KC h l H else .bad
  | .jp _ _=> .bad
  |o=>o
 | .del e i,l,H=>(bj P R e l H).then l λo H=>(bj P R i l H).then l λk H=>match hW o k H with
  |some H=> .next l H
  |none=> .bad
noncomputable def aK:cA->cR->HP->cQ
 | .nil,l,H=> .next l H
 | .cons s r,l,H=>match gJ s l H with
  | .next l H=>aK r l H
  |o=>o
end
end
noncomputable def uA (fi:Fn)(as:List SV):Option (List SV):=if as.length+fi.dflt.length=fi.fV then some (as++fi.dflt) else none
noncomputable def run (P:PI):Nat->au
 |0,_,_,_=> .bad
 |d+1,f,as,H=>match P.fns[f]? with
  |some fi=>match uA fi as with
   |some as=>match aK P (run P d) fi.body (as.map some++List.replicate (fi.oj - fi.fV) none) H with
    | .next _ H=> .ok .none H
    | .ret v H=> .ok v H
    | .exc c _ H=>if fi.cells then .bad else .exc c H
    | .jp c H=>if fi.cells then .bad else .exc c H
    |_=> .bad
   |none=> .bad
  |none=> .bad
end Mine
namespace Mine
open PySem PySem.W PySem.Calls PyProof.Rows PySem.Spec
theorem cps {P:Prop}(h:∀G:Prop,(P->G)->G):P:=h P id
noncomputable abbrev ao:=List (Addr×Obj)
noncomputable abbrev dN:=List (Nat×Nat)
noncomputable abbrev jH (aC:List Value):Obj:={cls:= .type "tuple",data:= .seq aC.toArray}
noncomputable abbrev eL (b:Array UInt8):Obj:={cls:= .type "bytearray",data:= .bytearray b 0}
noncomputable abbrev zL (a b:Int)(t u v:Tok):Obj:={cls:= .type "range",data:= .fields #[.int a t, .int b u, .int 1 v]}
mutual
inductive av (ac:ao)(ah:dN):SV->Value->Prop
 |none:av ac ah .none .none
 |bool (b:Bool):av ac ah (.bool b) (.bool b)
 |int (i:Int) (t:Tok):av ac ah (.int i) (.int i t)
 |bytes {b:By} (dp:Array UInt8) (t:Tok):KBw.bInts dp=b->b.length<=big->av ac ah (.bytes b) (.bytes dp t)
 |text (x:Str) (t:Tok):av ac ah .text (.str x t)
 |tuple {vs:List SV} {aC:List Value} {a:Addr}:(a,jH aC)∈ac->aH ac ah vs aC->vs.length<=big->av ac ah (.tuple vs) (.ref a)
 |range {lo hi:Int} {a:Addr} {t u v:Tok}:(a,zL lo hi t u v)∈ac->0<=lo->lo<=hi->hi<=big->av ac ah (.range lo hi) (.ref a)
 |ref {i:Nat} {p:Nat×Nat}:ah[i]? =some p->av ac ah (.ref i) (.ref p.1)
inductive aH (ac:ao)(ah:dN):List SV->List Value->Prop
 |nil:aH ac ah [] []
 |cons {v:SV} {r:Value} {vs:List SV} {rs:List Value}:av ac ah v r->aH ac ah vs rs->aH ac ah (v::vs) (r::rs)
end
theorem fe {α:Type}{r:α}{P:Prop}(e:none=some r):P:=nh e
noncomputable def VV (ac:ao)(ah:dN)(r:Value):SV->Prop
 | .none=>r= .none
 | .bool b=>r= .bool b
 | .int i=>∃u,r= .int i u
 | .bytes b=>∃dp t,r= .bytes dp t/\b=KBw.bInts dp/\b.length<=big
 | .text=>∃x t,r= .str x t
 | .tuple vs=>∃aC a,r= .ref a/\(a,jH aC)∈ac/\aH ac ah vs aC/\vs.length<=big
 | .range lo hi=>∃a t u v,r= .ref a/\(a,zL lo hi t u v)∈ac/\0<=lo/\lo<=hi/\hi<=big
 | .ref i=>∃p,r= .ref p.1/\ah[i]? =some p
theorem vv (h:av ac ah v r):VV ac ah r v:=by
 cases h with
 |none=>rfl
 |bool _=>rfl
 |int _ _=>exact ⟨_,rfl⟩
 |bytes dp t h1 h2=>exact ⟨dp,t,rfl,h1.symm,h2⟩
 |text _ _=>exact ⟨_,_,rfl⟩
 |tuple h1 h2 h3=>exact ⟨_,_,rfl,h1,h2,h3⟩
 |range h1 h2 h3 h4=>exact ⟨_,_,_,_,rfl,h1,h2,h3,h4⟩
 |ref h1=>exact ⟨_,rfl,h1⟩
section
variable {ac:ao}{ah:dN}{r:Value}{v:SV}
theorem dW (h:av ac ah .none r):r= .none:=vv h
theorem kC (h:av ac ah (.bool b) r):r= .bool b:=vv h
theorem aR (h:av ac ah (.int i) r):∃u,r= .int i u:=vv h
theorem bh (h:av ac ah (.bytes b) r):∃dp t,r= .bytes dp t/\b=KBw.bInts dp/\b.length<=big:=vv h
theorem ND (h:av ac ah .text r):∃x t,r= .str x t:=vv h
theorem cS (h:av ac ah (.tuple vs) r):∃aC a,r= .ref a/\(a,jH aC)∈ac/\aH ac ah vs aC/\vs.length<=big:=vv h
theorem nT {lo hi:Int}(h:av ac ah (.range lo hi) r):∃a t u v,r= .ref a/\(a,zL lo hi t u v)∈ac/\0<=lo/\lo<=hi/\hi<=big:=vv h
theorem cL (e:v= .ref i)(h:av ac ah v r):∃p,r= .ref p.1/\ah[i]? =some p:=by subst e;exact vv h
end
noncomputable def dV (o:Obj):Bool:=match o.data with
 | .cell _=>false
 |_=>(match o.cls with
  | .type n=>n== "tuple"||n== "range"
  |_=>false)
theorem Cr (h:o.data= .cell v):dV o=false:=by unfold dV;rw [h]
noncomputable def fw (o:Obj):Bool:=match o.data with
 | .cell _=>true
 | .fields _=>(match o.cls with
  | .type n=>n== "list_iterator"||n== "range_iterator"||n== "bytes_iterator"
  |_=>false)
 |_=>false
structure bq (X:List Addr)(ac:ao)(ah:dN)(az:ao)(bM:dN):Prop where
 ah:∃more,bM=ah++more
 tp:∀p∈ac,dV p.2=true->p∈az
 cell:∀p∈ac,fw p.2=true->p.1∉X->p∈az
theorem bq.refl {X:List Addr}{ac:ao}{ah:dN}:bq X ac ah ac ah:=⟨⟨[],(ch _).symm⟩,λu8 h u8=>h,λu8 h u8 u8=>h⟩
theorem bq.trans {X:List Addr}(x:bq X n1 l1 n2 l2)(y:bq X n2 l2 n3 l3):bq X n1 l1 n3 l3:=by
 obtain ⟨⟨m1,e1⟩,s1,c1⟩:=x
 obtain ⟨⟨m2,e2⟩,s2,c2⟩:=y
 exact ⟨⟨m1++m2,by rw [e2,e1,bZ]⟩,λp h q=>s2 p (s1 p h q) q,λp h q z=>c2 p (c1 p h q z) q z⟩
theorem bq.wide {X:List Addr}(x:bq [] n1 l1 n2 l2):bq X n1 l1 n2 l2:=⟨x.ah,x.tp,λp h q u8=>x.cell p h q (by simp)⟩
theorem bq.at {X:List Addr}{n1 n2:ao}{l1 l2:dN}(x:bq X n1 l1 n2 l2){i:Nat}{p:Nat×Nat}(h:l1[i]? =some p):l2[i]? =some p:=by
 obtain ⟨⟨m,e⟩,_⟩:=x
 rw [e,iT (gw h).1];exact h
theorem bq.cons {X:List Addr}{ac:ao}{ah:dN}(p:Addr×Obj):bq X ac ah (p::ac) ah:=⟨⟨[],(ch _).symm⟩,λu8 h u8=> .tail _ h,λu8 h u8 u8=> .tail _ h⟩
theorem bq.app {X:List Addr}{ac:ao}{ah:dN}(p:Addr×Obj)(q:Nat×Nat):bq X ac ah (p::ac) (ah++ [q]):=⟨⟨[q],rfl⟩,λu8 h u8=> .tail _ h,λu8 h u8 u8=> .tail _ h⟩
theorem av.ext {X:List Addr}{n1 n2:ao}{l1 l2:dN}(x:bq X n1 l1 n2 l2){v:SV}{r:Value}(h:av n1 l1 v r):av n2 l2 v r:=
 av.rec (motive_1:=λv r u8=>av n2 l2 v r) (motive_2:=λvs rs u8=>aH n2 l2 vs rs) .none .bool .int .bytes .text (λhm u8 hl hs=> .tuple (x.tp _ hm rfl) hs hl) (λhm h1 h2 h3=> .range (x.tp _ hm rfl) h1 h2 h3) (λh=> .ref (x.at h)) .nil (λu8 u8 h t=> .cons h t) h
section
variable {n:ao}{l:dN}{vs:List SV}{rs:List Value}
theorem aH.ind {C:List SV->List Value->Prop}(h:aH n l vs rs)(nil:C [] [])(cons:∀{v r vs rs},av n l v r->aH n l vs rs->C vs rs->C (v::vs) (r::rs)):C vs rs:=
 aH.rec (motive_1:=λu8 u8 u8=>True) (motive_2:=λvs rs u8=>C vs rs) trivial (λu8=>trivial) (λu8 u8=>trivial) (λu8 u8 u8 u8=>trivial) (λu8 u8=>trivial) (λu8 u8 u8 u8=>trivial) (λu8 u8 u8 u8=>trivial) (λu8=>trivial) nil (λh t u8 i=>cons h t i) h
theorem aH.ext {X:List Addr}(x:bq X n l n2 l2)(h:aH n l vs rs):aH n2 l2 vs rs:=h.ind .nil λh u8 t=> .cons (h.ext x) t
theorem aH.length (h:aH n l vs rs):vs.length=rs.length:=h.ind (C:=λvs rs=>vs.length=rs.length) rfl λu8 u8 t=>congrArg (·+1) t
theorem aH.append {ts:List Value}(h:aH n l vs rs)(h2:aH n l ws ts):aH n l (vs++ws) (rs++ts):=h.ind (C:=λvs rs=>aH n l (vs++ws) (rs++ts)) h2 λh u8 t=> .cons h t
theorem aH.at {i:Nat}{v:SV}(h:aH n l vs rs):vs[i]? =some v->∃r,rs[i]? =some r/\av n l v r:=
 h.ind (C:=λvs rs=>∀i,vs[i]? =some v->∃r,rs[i]? =some r/\av n l v r) (λi e=>fe e) (λ{v' r _ _} h _ t i e=>by
  cases i with
  |zero=>exact ⟨r,rfl,cq e▸h⟩
  |succ i=>exact t i e) i
theorem aH.take (k:Nat)(h:aH n l vs rs):aH n l (vs.take k) (rs.take k):=
 h.ind (C:=λvs rs=>∀k,aH n l (vs.take k) (rs.take k)) (λk=>by rw [List.take_nil,List.take_nil];exact .nil) (λh u8 t k=>by
  cases k with
  |zero=>exact .nil
  |succ k=>exact .cons h (t k)) k
theorem aH.drop (k:Nat)(h:aH n l vs rs):aH n l (vs.drop k) (rs.drop k):=
 h.ind (C:=λvs rs=>∀k,aH n l (vs.drop k) (rs.drop k)) (λk=>by rw [List.drop_nil,List.drop_nil];exact .nil) (λh ht t k=>by
  cases k with
  |zero=>exact .cons h ht
  |succ k=>exact t k) k
theorem yo {P:Prop}(e:bT (v::vs)=some is)(k:∀i l,v= .int i->bT vs=some l->is=i::l->P):P:=by
 cases v with
 |int i=>
  change (match bT vs with|some l=>some (i::l)|none=>none)=some is at e
  cases h:bT vs with
  |none=>rw [h] at e;exact fe e
  |some l=>rw [h] at e;exact k i l rfl h (cq e).symm
 |_=>exact fe e
theorem aH.ints (h:aH n l vs rs):bT vs=some is->IntsAre rs is:=
 h.ind (C:=λvs rs=>∀is,bT vs=some is->IntsAre rs is) (λis e=>cq e▸ .nil) (λh u8 t is e=>yo e λi l hv hl LB=>by
  subst hv LB
  obtain ⟨u,rfl⟩:=aR h
  exact .cons _ _ (t _ hl)) is
end
structure lu where
 attr:Nat->Str
 dF:Nat->Addr
 oG:Nat->Addr
 fld:Nat->Nat->Bool
 glob:List (Str×GV)
 HU:Nat->Bool
inductive i6 (S:lu)(W:Params)(ac:ao)(ah:dN):List (Nat×SV)->List DictEntry->Prop
 |nil:i6 S W ac ah [] []
 |cons {a:Nat} {v:SV} {r:Value} {t:Tok} {fs:List (Nat×SV)} {es:List DictEntry}:av ac ah v r->i6 S W ac ah fs es->
   i6 S W ac ah ((a,v)::fs) (⟨PyData.keyHash W (S.attr a), .str (S.attr a) t,r⟩::es)
theorem i6.ext {S:lu}{W:Params}{X:List Addr}(x:bq X n1 l1 n2 l2)(h:i6 S W n1 l1 fs es):i6 S W n2 l2 fs es:=
 i6.rec (motive:=λfs es u8=>i6 S W n2 l2 fs es) .nil (λh u8 t=> .cons (h.ext x) t) h
inductive fX {α β:Type}(R:α->β->Prop)(ac:ao)(ah:dN):List (α×SV)->List (β×Value)->Prop
 |nil:fX R ac ah [] []
 |cons {a:α} {b:β} {v:SV} {r:Value} {xs:List (α×SV)} {ys:List (β×Value)}:R a b->av ac ah v r->fX R ac ah xs ys->fX R ac ah ((a,v)::xs) ((b,r)::ys)
theorem fX.ext {α β:Type}{R:α->β->Prop}{X:List Addr}(x:bq X n1 l1 n2 l2){xs:List (α×SV)}{ys:List (β×Value)}(h:fX R n1 l1 xs ys):fX R n2 l2 xs ys:=
 fX.rec (motive:=λxs ys u8=>fX R n2 l2 xs ys) .nil (λh v u8 t=> .cons h (v.ext x) t) h
noncomputable def E7 (b:By)(k:List UInt8):Prop:=KBw.bInts k.toArray=b/\b.length<=big
section
variable {K K' :Type}[DecidableEq K][DecidableEq K']{R:K->K'->Prop}{ac:ao}{ah:dN}{k:K}{k' :K'}
theorem fX.get (hR:∀a b,R a b->(a=k↔b=k')){xs:List (K×SV)}{ys:List (K' ×Value)}(h:fX R ac ah xs ys):
  (fR k xs=none/\valueAt ys k' =none)∨∃v r,fR k xs=some v/\valueAt ys k' =some r/\av ac ah v r:=by
 refine fX.rec (motive:=λxs ys u8=>(fR k xs=none/\valueAt ys k' =none)∨∃v r,fR k xs=some v/\valueAt ys k' =some r/\av ac ah v r) (.inl ⟨rfl,rfl⟩) (λ{a b v r xs ys} h1 h2 _ ih=> ?_) h
 have e:valueAt ((b,r)::ys) k' =if b=k' then some r else valueAt ys k' :=by
  unfold valueAt
  rw [List.find?_cons]
  by_cases q:b=k' <;>simp [q]
 rw [e,show fR k ((a,v)::xs)=if a=k then some v else fR k xs from rfl]
 by_cases q:a=k
 ·rw [if_pos q,if_pos ((hR _ _ h1).mp q)]
  exact .inr ⟨v,r,rfl,rfl,h2⟩
 ·rw [if_neg q,if_neg λz=>q ((hR _ _ h1).mpr z)]
  exact ih
theorem xo (b:K')(r:Value)(ys:List (K' ×Value))(x:Value)(nd:(((b,r)::ys).map (·.1)).Nodup):stored ((b,r)::ys) k' x=if b=k' then (b,x)::ys else (b,r)::stored ys k' x:=by
 rw [dZ,List.nodup_cons] at nd
 unfold stored
 rw [List.any_cons,dZ]
 by_cases q:b=k'
 ·subst q
  simp only [decide_true,Bool.true_or,if_true]
  congr 1
  have:∀kv∈ys,(if kv.1=b then (kv.1,x) else kv)=kv:=λkv hk=>if_neg λe=>nd.1 (by rw [<-e];exact ip (f:=(·.1)) hk)
  rw [List.map_congr_left this,List.map_id']
 ·simp only [q,decide_false,Bool.false_or,if_false]
  split<;>simp
theorem fX.put (hR:∀a b,R a b->(a=k↔b=k'))(hk:R k k')(hx:av ac ah x z){xs:List (K×SV)}{ys:List (K' ×Value)}(h:fX R ac ah xs ys):(ys.map (·.1)).Nodup->fX R ac ah (kM k x xs) (stored ys k' z):=by
 refine fX.rec (motive:=λxs ys u8=>(ys.map (·.1)).Nodup->fX R ac ah (kM k x xs) (stored ys k' z)) (λu8=> .cons hk hx .nil) (λ{a b v r xs ys} h1 h2 h3 ih nd=> ?_) h
 rw [xo b r ys z nd]
 show fX R ac ah (if a=k then (a,x)::xs else (a,v)::kM k x xs) _
 rw [dZ,List.nodup_cons] at nd
 by_cases q:a=k
 ·rw [if_pos q,if_pos ((hR _ _ h1).mp q)]
  exact .cons h1 hx h3
 ·rw [if_neg q,if_neg λe=>q ((hR _ _ h1).mpr e)]
  exact .cons h1 h2 (ih nd.2)
theorem fX.del (hR:∀a b,R a b->(a=k↔b=k')){xs:List (K×SV)}{ys:List (K' ×Value)}(h:fX R ac ah xs ys):(ys.map (·.1)).Nodup->fX R ac ah (p8 k xs) (without ys k'):=by
 refine fX.rec (motive:=λxs ys u8=>(ys.map (·.1)).Nodup->fX R ac ah (p8 k xs) (without ys k')) (λu8=> .nil) (λ{a b v r xs ys} h1 h2 h3 ih nd=> ?_) h
 have e:without ((b,r)::ys) k' =if b=k' then without ys k' else (b,r)::without ys k' :=by
  unfold without
  rw [List.filter_cons]
  by_cases q:b=k' <;>simp [q]
 rw [e]
 show fX R ac ah (if a=k then xs else (a,v)::p8 k xs) _
 rw [dZ,List.nodup_cons] at nd
 by_cases q:a=k
 ·have qb:=(hR _ _ h1).mp q
  subst qb
  rw [if_pos q,if_pos rfl,without_of_not_mem ys b nd.1]
  exact h3
 ·rw [if_neg q,if_neg λe=>q ((hR _ _ h1).mpr e)]
  exact .cons h1 h2 (ih nd.2)
theorem fX.length {xs:List (K×SV)}{ys:List (K' ×Value)}(h:fX R ac ah xs ys):xs.length=ys.length:=
 fX.rec (motive:=λxs ys u8=>xs.length=ys.length) rfl (λu8 u8 u8 t=>congrArg (·+1) t) h
theorem lT (x:SV):∀xs:List (K×SV),(kM k x xs).length<=xs.length+1
 | []=>bS _
 |p::r=>by
  rw [AA]
  split
  ·simp
  ·have:=lT x r;simp;assumption
theorem qW:∀xs:List (K×SV),(p8 k xs).length<=xs.length
 | []=>bS _
 |p::r=>by
  rw [zk]
  split
  ·simp
  ·have:=qW r;simp;assumption
end
theorem uM (h:KBw.bInts a=KBw.bInts b):a=b:=by
 obtain ⟨a⟩:=a
 obtain ⟨b⟩:=b
 congr 1
 rw [KBw.ints_list,KBw.ints_list] at h
 revert b
 induction a with
 |nil=>
  intro b h
  cases b with
  |nil=>rfl
  |cons y b=>cases h
 |cons x a ih=>
  intro b h
  cases b with
  |nil=>cases h
  |cons y b=>
   rw [dZ,dZ] at h
   injection h with h1 h2
   rw [ih b h2,show x=y from UInt8.toNat_inj.mp (by lia)]
theorem oI (hb:KBw.bInts dp=b):∀a k,E7 a k->(a=b↔k=dp.toList):=λa k h=>by
 constructor
 ·intro e
  have:=uM ((h.1.trans e).trans hb.symm)
  rw [<-this]
 ·intro e
  rw [<-h.1,e,<-hb]
inductive iZ (prog:Program)(w:World)(S:lu)(ac:ao)(ah:dN):Nat×Nat->SO->Prop
 |list {p:Nat×Nat} {vs:List SV} {aC:List Value} {n:Nat}:(p.1,listOf aC.toArray n)∈ac->aH ac ah vs aC->vs.length<=big->iZ prog w S ac ah p (.list vs)
 |aM {p:Nat×Nat} {o:Obj}:(p.1,o)∈ac->(p.1==sysModules)=false->(∀(K:Type) [DecidableEq K] (knd:KeyKind prog w K),o.IsDictOf knd [])->iZ prog w S ac ah p .aM
 |cg {p:Nat×Nat} {o:Obj} {kvs:List (By×SV)} {ys:List (List UInt8×Value)}:(p.1,o)∈ac->(p.1==sysModules)=false->o.IsDictOf (bytesKind prog w) ys->fX E7 ac ah kvs ys->kvs.length<=big->iZ prog w S ac ah p (.cg kvs)
 |dB {p:Nat×Nat} {o:Obj} {kvs:List (Int×SV)} {ys:List (Int×Value)}:(p.1,o)∈ac->(p.1==sysModules)=false->o.IsDictOf (intKind prog w) ys->fX Eq ac ah kvs ys->kvs.length<=big->iZ prog w S ac ah p (.dB kvs)
 |cw {p:Nat×Nat} {b:By} {dp:Array UInt8}:(p.1,eL dp)∈ac->KBw.bInts dp=b->b.length<=big->iZ prog w S ac ah p (.cw b)
 |inst {p:Nat×Nat} {c:Nat} {fs:List (Nat×SV)} {es:List DictEntry} {n:Nat}:(p.1,instObj (S.dF c) p.2)∈ac->(p.2,dictOf es n)∈ac->i6 S w.params ac ah fs es->(∀q∈fs,S.fld c q.1=true)->iZ prog w S ac ah p (.inst c fs)
noncomputable def OV (prog:Program)(w:World)(S:lu)(ac:ao)(ah:dN)(p:Nat×Nat):SO->Prop
 | .list vs=>∃aC n,(p.1,listOf aC.toArray n)∈ac/\aH ac ah vs aC/\vs.length<=big
 | .aM=>∃o,(p.1,o)∈ac/\(p.1==sysModules)=false/\∀(K:Type) [DecidableEq K] (knd:KeyKind prog w K),o.IsDictOf knd []
 | .cg kvs=>∃o ys,(p.1,o)∈ac/\(p.1==sysModules)=false/\o.IsDictOf (bytesKind prog w) ys/\fX E7 ac ah kvs ys/\kvs.length<=big
 | .dB kvs=>∃o ys,(p.1,o)∈ac/\(p.1==sysModules)=false/\o.IsDictOf (intKind prog w) ys/\fX Eq ac ah kvs ys/\kvs.length<=big
 | .cw b=>∃dp,(p.1,eL dp)∈ac/\b=KBw.bInts dp/\b.length<=big
 | .inst c fs=>∃es n,(p.1,instObj (S.dF c) p.2)∈ac/\(p.2,dictOf es n)∈ac/\i6 S w.params ac ah fs es/\∀q∈fs,S.fld c q.1=true
section
variable {prog:Program}{w:World}{S:lu}{ac:ao}{ah:dN}{p:Nat×Nat}
theorem ov (h:iZ prog w S ac ah p o):OV prog w S ac ah p o:=by
 cases h with
 |list a b c=>exact ⟨_,_,a,b,c⟩
 |aM a b c=>exact ⟨_,a,b,c⟩
 |cg a b c d e=>exact ⟨_,_,a,b,c,d,e⟩
 |dB a b c d e=>exact ⟨_,_,a,b,c,d,e⟩
 |cw a b c=>exact ⟨_,a,b.symm,c⟩
 |inst a b c d=>exact ⟨_,_,a,b,c,d⟩
theorem gk (h:iZ prog w S ac ah p (.list vs)):∃aC n,(p.1,listOf aC.toArray n)∈ac/\aH ac ah vs aC/\vs.length<=big:=ov h
end
structure fF (prog:Program)(w:World)(S:lu)(ac:ao)(ah:dN)(H:HP):Prop where
 len:ah.length=H.length
 obj:∀(i:Nat) o p,H[i]? =some o->ah[i]? =some p->iZ prog w S ac ah p o
 apart:ah.Pairwise λp q=>p.1<q.2
 DG:∀p∈ah,p.2<=p.1
 there:∀p∈ah,∃o,(p.1,o)∈ac
noncomputable def eQ (d:Addr)(o' :Obj)(ac:ao):ao:=ac.map λp=>if p.1=d then (d,o') else p
theorem mZ (d:Addr)(o' :Obj)(ac:ao):(eQ d o' ac).map (·.1)=ac.map (·.1):=by
 unfold eQ
 rw [List.map_map]
 apply List.map_congr_left
 intro p _
 show (if p.1=d then (d,o') else p).1=p.1
 split<;>simp_all
theorem qB:∀{ac:ao},(∀p∈ac,p.1≠d)->eQ d o' ac=ac
 | [],_=>rfl
 |p::r,h=>by
  have e:eQ d o' (p::r)=(if p.1=d then (d,o') else p)::eQ d o' r:=rfl
  rw [e,if_neg (h p (.head _)),qB λq hq=>h q (.tail _ hq)]
theorem AF {o o' :Obj}:∀{ac:ao},(ac.map (·.1)).Nodup->(d,o)∈ac->Upd d o o' ac (eQ d o' ac)
 |p::r,nd,hm=>by
  rw [dZ,List.nodup_cons] at nd
  have e:eQ d o' (p::r)=(if p.1=d then (d,o') else p)::eQ d o' r:=rfl
  rw [e]
  rcases cH hm with rfl|hm
  ·have hr:∀q∈r,q.1≠d:=λq hq e=>nd.1 (e▸ip (f:=(·.1)) hq)
   rw [if_pos rfl,qB hr]
   exact .head hr
  ·have hd:p.1≠d:=λe=>nd.1 (e▸ip (f:=(·.1)) hm)
   rw [if_neg hd]
   exact .tail hd (AF nd.2 hm)
theorem dX (hp:p∈ac)(hd:p.1≠d):p∈eQ d o' ac:=
 List.mem_map.mpr ⟨p,hp,if_neg hd⟩
theorem dE (hp:(d,o)∈ac):(d,o')∈eQ d o' ac:=
 List.mem_map.mpr ⟨_,hp,if_pos rfl⟩
theorem fb {ac:ao}{a:Addr}(nd:(ac.map (·.1)).Nodup)(h1:(a,o)∈ac)(h2:(a,o')∈ac):o=o' :=by
 induction ac with
 |nil=>exact j1 h1
 |cons p r ih=>
  rw [dZ,List.nodup_cons] at nd
  rcases cH h1 with e1|h1<;>rcases cH h2 with e2|h2
  ·rw [<-e1] at e2;exact (Prod.mk.inj e2).2.symm
  ·exact absurd (by rw [<-e1];exact ip (f:=(·.1)) h2) nd.1
  ·exact absurd (by rw [<-e2];exact ip (f:=(·.1)) h1) nd.1
  ·exact ih nd.2 h1 h2
theorem bq.rep {X:List Addr}{ac:ao}{ah:dN}{d:Addr}{o o' :Obj}(nd:(ac.map (·.1)).Nodup)(hm:(d,o)∈ac)(ho:dV o=false)(hc:fw o=false):bq X ac ah (eQ d o' ac) ah:=
 have key:∀p∈ac,p.1=d->p.2=o:=λp hp hd=>fb (a:=d) nd (by rw [<-hd];exact hp) hm
 ⟨⟨[],(ch _).symm⟩,λp hp q=>by
  by_cases hd:p.1=d
  ·rw [key p hp hd,ho] at q;exact yb q
  ·exact dX hp hd,λp hp q u8=>by
  by_cases hd:p.1=d
  ·rw [key p hp hd,hc] at q;exact yb q
  ·exact dX hp hd⟩
theorem bq.rQ {X:List Addr}{ac:ao}{ah:dN}{d:Addr}{o o' :Obj}(nd:(ac.map (·.1)).Nodup)(hm:(d,o)∈ac)(ho:dV o=false)(hc:d∈X):bq X ac ah (eQ d o' ac) ah:=
 ⟨⟨[],(ch _).symm⟩,λp hp q=>by
  by_cases hd:p.1=d
  ·rw [show p.2=o from fb (a:=d) nd (by rw [<-hd];exact hp) hm,ho] at q;exact yb q
  ·exact dX hp hd,λp hp q z=>dX hp λhd=>z (hd▸hc)⟩
section
variable {prog:Program}{w:World}{S:lu}{ac az:ao}{ah bM:dN}{H:HP}{p:Nat×Nat}
theorem iZ.keep {X:List Addr}(x:bq X ac ah az bM)(k:∀q∈ac,q.1=p.1∨q.1=p.2->q∈az)(h:iZ prog w S ac ah p o):iZ prog w S az bM p o:=by
 cases h with
 |list hm hv hl=>exact .list (k _ hm (.inl rfl)) (hv.ext x) hl
 |aM hm hz hd=>exact .aM (k _ hm (.inl rfl)) hz hd
 |cg hm hz hd hp hl=>exact .cg (k _ hm (.inl rfl)) hz hd (hp.ext x) hl
 |dB hm hz hd hp hl=>exact .dB (k _ hm (.inl rfl)) hz hd (hp.ext x) hl
 |cw hm hb hl=>exact .cw (k _ hm (.inl rfl)) hb hl
 |inst hm hd hf hl=>exact .inst (k _ hm (.inl rfl)) (k _ hd (.inr rfl)) (hf.ext x) hl
theorem fF.at (h:fF prog w S ac ah H){i:Nat}{o:SO}(e:H[i]? =some o):∃p,ah[i]? =some p/\iZ prog w S ac ah p o:=by
 have hi:=(gw e).1
 have hl:i<ah.length:=by rw [h.len];exact hi
 exact ⟨ah[i],eV hl,h.obj i o _ e (eV hl)⟩
theorem fF.ne (h:fF prog w S ac ah H){i j:Nat}{p q:Nat×Nat}(hi:ah[i]? =some p)(hj:ah[j]? =some q)(ij:i≠j):p.1≠q.1/\p.1≠q.2/\p.2≠q.1/\p.2≠q.2:=by
 obtain ⟨li,ei⟩:=gw hi
 obtain ⟨lj,ej⟩:=gw hj
 have a:=h.DG p (ei▸List.getElem_mem li)
 have b:=h.DG q (ej▸List.getElem_mem lj)
 have P:=List.pairwise_iff_getElem.mp h.apart
 rcases Nat.lt_or_gt_of_ne ij with l|l
 ·have z:=P i j li lj l
  rw [ei,ej] at z
  refine ⟨?_, ?_, ?_, ?_⟩<;>(intro e;lia)
 ·have z:=P j i lj li l
  rw [ei,ej] at z
  refine ⟨?_, ?_, ?_, ?_⟩<;>(intro e;lia)
theorem fF.turn (h:fF prog w S ac ah H)(nd:(ac.map (·.1)).Nodup){o' :SO}(hp:ah[i]? =some p)(hd:d=p.1∨d=p.2)(hm:(d,x)∈ac)(hs:dV x=false)(hc:fw x=false)
  (ho:iZ prog w S (eQ d x' ac) ah p o'):fF prog w S (eQ d x' ac) ah (H.set i o'):=by
 refine ⟨by rw [List.length_set];exact h.len,λj o q ej hq=> ?_,h.apart,h.DG,λq hq=> ?_⟩
 ·by_cases ij:i=j
  ·subst ij
   rw [hp] at hq;cases hq
   have hl:=(gw ej).1
   rw [List.length_set] at hl
   rw [List.getElem?_set_self hl] at ej
   cases ej
   exact ho
  ·rw [List.getElem?_set_ne ij] at ej
   refine (h.obj j o q ej hq).keep (bq.rep (X:= []) nd hm hs hc) λr hr e=>dX hr ?_
   have z:=h.ne hp hq ij
   rcases hd with rfl|rfl<;>rcases e with e|e<;>rw [e]<;>simp [Ne.symm z.1,Ne.symm z.2.1,Ne.symm z.2.2.1,Ne.symm z.2.2.2]
 ·obtain ⟨o,ho⟩:=h.there q hq
  by_cases e:q.1=d
  ·exact ⟨x',by rw [e];exact dE hm⟩
  ·exact ⟨o,dX ho e⟩
theorem fF.more (h:fF prog w S ac ah H)(q:Addr×Obj):fF prog w S (q::ac) ah H:=
 ⟨h.len,λi o p e hp=>(h.obj i o p e hp).keep (bq.cons (X:= []) q) λu8 hr u8=> .tail _ hr,h.apart,h.DG,λp hp=>let ⟨o,ho⟩:=h.there p hp;⟨o, .tail _ ho⟩⟩
theorem fF.K7 (h:fF prog w S ac ah H)(nd:(ac.map (·.1)).Nodup)(hm:(d,x)∈ac)(hs:dV x=false)(hd:∀p∈ah,p.1≠d/\p.2≠d):fF prog w S (eQ d x' ac) ah H:=
 ⟨h.len,λi o p e hp=>(h.obj i o p e hp).keep (bq.rQ (X:= [d]) nd hm hs (by simp)) λr hr e' =>dX hr (by
   have z:=hd p (List.mem_of_getElem? hp)
   rcases e' with e' |e' <;>rw [e']<;>simp [z.1,z.2]),h.apart,h.DG,λp hp=>let ⟨o,ho⟩:=h.there p hp;⟨o,dX ho (hd p hp).1⟩⟩
theorem fF.new (h:fF prog w S ac ah H){D:Addr}{x:Obj}{o:SO}(lt:∀q∈ac,q.1<D)(ho:iZ prog w S ((D,x)::ac) (ah++ [(D,D)]) (D,D) o):fF prog w S ((D,x)::ac) (ah++ [(D,D)]) (H++ [o]):=by
 refine ⟨by simp [h.len],λi o' p e hp=> ?_, ?_,λp hp=> ?_,λp hp=> ?_⟩
 ·rcases Nat.lt_or_ge i H.length with l|l
  ·rw [iT l] at e
   rw [iT (by rw [h.len];exact l)] at hp
   exact (h.obj i o' p e hp).keep (bq.app (X:= []) _ _) λu8 hr u8=> .tail _ hr
  ·have:i=H.length:=by
    have:=(gw e).1
    simp at this;lia
   subst this
   rw [eJ (bS _)] at e
   rw [eJ (by rw [h.len];exact bS _)] at hp
   simp [h.len] at e hp
   subst e hp
   exact ho
 ·rw [List.pairwise_append]
  refine ⟨h.apart,List.pairwise_singleton ..,λp hp q hq=> ?_⟩
  rw [eF hq]
  obtain ⟨o,ho⟩:=h.there p hp
  exact lt _ ho
 ·rcases gf hp with hp|hp
  ·exact h.DG p hp
  ·rw [eF hp];exact bS _
 ·rcases gf hp with hp|hp
  ·obtain ⟨o,ho⟩:=h.there p hp;exact ⟨o, .tail _ ho⟩
  ·rw [eF hp];exact ⟨x, .head _⟩
theorem fF.IP (h:fF prog w S ac ah H){x dx:Addr}(lt:∀q∈ac,q.1<dx)(lx:dx<x):
  fF prog w S ((x,instObj (S.dF c) dx)::(dx,dictOf [] 0)::ac) (ah++ [(x,dx)]) (H++ [.inst c []]):=by
 have X:bq [] ac ah ((x,instObj (S.dF c) dx)::(dx,dictOf [] 0)::ac) (ah++ [(x,dx)]):=⟨⟨_,rfl⟩,λu8 hp u8=> .tail _ (.tail _ hp),λu8 hp u8 u8=> .tail _ (.tail _ hp)⟩
 refine ⟨by simp [h.len],λi o' p e hp=> ?_, ?_,λp hp=> ?_,λp hp=> ?_⟩
 ·rcases Nat.lt_or_ge i H.length with l|l
  ·rw [iT l] at e
   rw [iT (by rw [h.len];exact l)] at hp
   exact (h.obj i o' p e hp).keep X λu8 hr u8=> .tail _ (.tail _ hr)
  ·have:i=H.length:=by
    have:=(gw e).1
    simp at this;lia
   subst this
   rw [eJ (bS _)] at e
   rw [eJ (by rw [h.len];exact bS _)] at hp
   simp [h.len] at e hp
   subst e hp
   exact .inst (.head _) (.tail _ (.head _)) .nil (λu8 h=>j1 h)
 ·rw [List.pairwise_append]
  refine ⟨h.apart,List.pairwise_singleton ..,λp hp q hq=> ?_⟩
  rw [eF hq]
  obtain ⟨o,ho⟩:=h.there p hp
  exact lt _ ho
 ·rcases gf hp with hp|hp
  ·exact h.DG p hp
  ·rw [eF hp];exact Nat.le_of_lt lx
 ·rcases gf hp with hp|hp
  ·obtain ⟨o,ho⟩:=h.there p hp;exact ⟨o, .tail _ (.tail _ ho)⟩
  ·rw [eF hp];exact ⟨_, .head _⟩
end
structure Cx where
 prog:Program
 w:World
 K:Frag
 S:lu
 P:PI
 pv:Program
 loose:List Str
 I1:ExcName->Option Value
 mg:Str->Option Value
 mb:Str->Option Value
 base:Heap
 g₀:Heap
 outer:List Env
 A₀:Around
 cn:Str
 cs:Scope
 L:Addr
 a:Addr
 cd:Value
 cl:List (Str×Addr)
 gens:Array GenState
 drawn:Drawn
 os:OsState
noncomputable def Cx.env (c:Cx):Env:=envX c.cn c.cs c.L c.a c.cd c.cl
noncomputable def Cx.A (c:Cx):Around:=c.A₀.deeper c.env
noncomputable def Cx.fs (c:Cx):List Addr:=c.outer.filterMap (·.frame)
noncomputable def lb (K:Frag)(C:Addr):Bool:=
 findIn K (.ref C) "__setattr__"==some (some (.builtin "object.__setattr__"))&&plainOver K C&&hasDictIn K C&&plainGet K C ""&&makesIn K C
noncomputable def pc (K:Frag)(C:Addr)(n:Str):Bool:=
 takerIn K C n==some none&&(match findIn K (.ref C) n with|some at_=>noGet K at_|none=>false)
noncomputable def rF (K:Frag)(C:Addr)(n:Str)(f:Addr):Bool:=
 findIn K (.ref C) n==some (some (.ref f))&&isFn K (.ref f)&&keepIn K (.ref f)
noncomputable def fk:Bi->Value
 | .len=> .builtin "len"| .bytes=> .type "bytes"| .bytearray=> .type "bytearray"| .range=> .type "range"| .list=> .type "list"| .tuple=> .type "tuple"
 | .sorted=> .builtin "sorted"| .min=> .builtin "min"| .sum=> .builtin "sum"
structure wX (K:Frag)(P:PI)(S:lu):Prop where
 inj:∀a b,S.attr a=S.attr b->a=b
 fld:S.fld=P.field
 field:∀c a,P.field c a=true->lb K (S.dF c)=true/\pc K (S.dF c) (S.attr a)=true
 ma:∀c m f,P.ma c m=some f->lb K (S.dF c)=true/\rF K (S.dF c) (S.attr m) (S.oG f)=true
 init:∀c f,P.init c=some f->lb K (S.dF c)=true/\keepIn K (.ref (S.dF c))=true/\findIn K (.ref (S.dF c)) "__init__"=some (some (.ref (S.oG f)))/\isFn K (.ref (S.oG f))=true
 NP:∀x i,S.glob.lookup x=some (.int i)->∃t,nsIn K mainGlobals x=some (some (.int i t))
 El:∀x b,S.glob.lookup x=some (.bytes b)->∃dp t,nsIn K mainGlobals x=some (some (.bytes dp t))/\KBw.bInts dp=b/\b.length<=big
 T7:∀x f,S.glob.lookup x=some (.fn f)->nsIn K mainGlobals x=some (some (.ref (S.oG f)))/\keepIn K (.ref (S.oG f))=true
 EV:∀x k,S.glob.lookup x=some (.cls k)->nsIn K mainGlobals x=some (some (.ref (S.dF k)))
 VQ:∀x b,S.glob.lookup x=some (.bi b)->nsIn K mainGlobals x=some none/\bootBuiltins x=some (fk b)/\x≠ "__name__"
 Ly:S.attr P.mc.append= "append"
 PW:S.attr P.mc.extend= "extend"
 IY:S.attr P.mc.get= "get"
structure Cx.Ok (c:Cx)(d:Nat):Prop where
 mW:wX c.K c.P c.S
 below:Below c.A₀ c.base c.outer c.g₀
 Ii:c.K.In c.base
 top:Top c.pv c.loose c.I1 c.mg c.mb c.base
 kind:c.cs.kind= .function
 hand:c.A₀.handled=none
 Rf:(c.cl.map (·.2)).Nodup
 WO:(c.cl.map (·.1)).Nodup
 KQ:KtsDicts c.fs c.g₀
structure aV (c:Cx)(m:Str->Option Value)(ac:ao)(ah:dN)(H:HP)(s:Shared):Prop where
 g:∃g,KtsTurn c.fs c.g₀ g/\Fr g c.L s.heap m/\News g c.L s.heap ac
 nd:(ac.map (·.1)).Nodup
 hr:fF c.prog c.w c.S ac ah H
 cells:∀x a,c.cl.lookup x=some a->∃o v₀,(a,o)∈ac/\o.data= .cell v₀
 sh:s.gens=c.gens/\s.drawn=c.drawn/\s.os=c.os
theorem aV.gE (hn:aV c m ac ah H s){C:Prop}(k:∀g,KtsTurn c.fs c.g₀ g->Fr g c.L s.heap m->News g c.L s.heap ac->C):C:=by
 refine mq hn.g λg T F N=> ?_
 exact k g T F N
theorem rR {ac:ao}(nd:(ac.map (·.1)).Nodup)(lt:∀q∈ac,q.1<D):(((D,x)::ac).map (·.1)).Nodup:=by
 rw [dZ,List.nodup_cons]
 refine ⟨λhm=> ?_,nd⟩
 refine aZ (gH hm) λq hq e=> ?_
 exact absurd (lt q hq) (by rw [e];exact Nat.lt_irrefl _)
theorem Bo (nd:(ac.map (·.1)).Nodup):((eQ d x ac).map (·.1)).Nodup:=by rw [mZ];exact nd
section
variable {c:Cx}{d:Nat}{m:Str->Option Value}{ac:ao}{ah:dN}{H:HP}{s:Shared}
theorem zN (hf:g₀.FunFrames base outer)(st:base.StaysIn g₀)(T:KtsTurn (outer.filterMap (·.frame)) g₀ g):base.StaysIn g:=λb o e=>
 T.other b o (st b o e) λhm=>by
  obtain ⟨h1,_⟩:=hf.mem hm
  rw [h1] at e;exact nh e
theorem Cx.Ok.stays (ok:c.Ok d)(T:KtsTurn c.fs c.g₀ g):c.base.StaysIn g:=zN ok.below.frames ok.below.stays T
theorem Cx.Ok.pR (ok:c.Ok d)(T:KtsTurn c.fs c.g₀ g):c.K.In g:=ok.Ii.keeps (ok.stays T)
theorem Cx.Ok.Cj (ok:c.Ok d)(T:KtsTurn c.fs c.g₀ g):TopRead c.pv c.loose c.mg c.mb g:=(topRead_of ok.top).keeps (ok.stays T)
theorem Cx.Ok.Vx (ok:c.Ok d):c.A.handled=none:=ok.hand
theorem aV.addr (hn:aV c m ac ah H s)(hp:p∈ac):s.heap.get? p.1=some p.2:=by
 refine hn.gE λg u8 u8 N=> ?_
 exact (N p hp).1
theorem aV.lt (hn:aV c m ac ah H s):∀q∈ac,q.1<s.heap.objs.size:=λq hq=>Heap.lt_size (hn.addr hq)
theorem aV.toks (hn:aV c m ac ah H s)(t:Nat):aV c m ac ah H {s with toks:=t}:=⟨hn.g,hn.nd,hn.hr,hn.cells,hn.sh⟩
theorem aV.same (hn:aV c m ac ah H s)(h1:s'.heap=s.heap)(h2:s'.gens=s.gens)(h3:s'.drawn=s.drawn)(h4:s'.os=s.os):aV c m ac ah H s' :=by
 obtain ⟨g,nd,hr,ce,a,b,e⟩:=hn
 refine ⟨?_,nd,hr,ce,h2.trans a,h3.trans b,h4.trans e⟩
 rw [h1];exact g
theorem aV.more (hn:aV c m ac ah H s){g:Heap}{D:Addr}{x:Obj}{h' :Heap}{t:Nat}(T:KtsTurn c.fs c.g₀ g)(F:Fr g c.L h' m)(N:News g c.L h' ((D,x)::ac))(lt:∀q∈ac,q.1<D):
  aV c m ((D,x)::ac) ah H {s with heap:=h',toks:=t}:=
 ⟨⟨g,T,F,N⟩,rR hn.nd lt,hn.hr.more _,λy a e=>let ⟨o,v,h1,h2⟩:=hn.cells y a e;⟨o,v, .tail _ h1,h2⟩,hn.sh⟩
theorem aV.new (hn:aV c m ac ah H s){g:Heap}{D:Addr}{x:Obj}{o:SO}{h' :Heap}{t:Nat}(T:KtsTurn c.fs c.g₀ g)(F:Fr g c.L h' m)(N:News g c.L h' ((D,x)::ac))(lt:∀q∈ac,q.1<D)
  (ho:iZ c.prog c.w c.S ((D,x)::ac) (ah++ [(D,D)]) (D,D) o):aV c m ((D,x)::ac) (ah++ [(D,D)]) (H++ [o]) {s with heap:=h',toks:=t}:=
 ⟨⟨g,T,F,N⟩,rR hn.nd lt,hn.hr.new lt ho,λy a e=>let ⟨o,v,h1,h2⟩:=hn.cells y a e;⟨o,v, .tail _ h1,h2⟩,hn.sh⟩
theorem sb (hn:aV c m ac ah H s):av ((D,x)::ac) (ah++ [(D,D)]) (.ref H.length) (.ref D):=
 .ref (p:=(D,D)) (by rw [<-hn.hr.len,eJ (bS _)];simp)
theorem aV.turn (hn:aV c m ac ah H s){g:Heap}{i:Nat}{p:Nat×Nat}{dd:Addr}{x x' :Obj}{o' :SO}{h' :Heap}{t:Nat}(T:KtsTurn c.fs c.g₀ g)(F:Fr g c.L h' m)(N:News g c.L h' (eQ dd x' ac))
  (hp:ah[i]? =some p) (hd:dd=p.1∨dd=p.2) (hm:(dd,x)∈ac) (hs:dV x=false) (hc:fw x=false) (ho:iZ c.prog c.w c.S (eQ dd x' ac) ah p o'):
  aV c m (eQ dd x' ac) ah (H.set i o') {s with heap:=h',toks:=t}:=
 ⟨⟨g,T,F,N⟩,Bo hn.nd,hn.hr.turn hn.nd hp hd hm hs hc ho,λy a e=>by
  refine uy (hn.cells y a e) λo v h1 h2=> ?_
  refine ⟨o,v,dX h1 λq=> ?_,h2⟩
  have:o=x:=fb (a:=dd) hn.nd (by rw [<-(show a=dd from q)];exact h1) hm
  subst this
  unfold fw at hc
  rw [h2] at hc
  exact Bool.noConfusion hc,hn.sh⟩
end
section
variable {S:lu}{W:Params}{ac:ao}{ah:dN}
theorem pX (n b:Str)(h:Int)(t:Tok)(r:Value)(es:List DictEntry):getL n (⟨h, .str b t,r⟩::es)=if b=n then some (some r) else getL n es:=by
 unfold getL
 rw [List.find?_cons,List.any_cons]
 show (match (match (b==n) with|true=>some (⟨h, .str b t,r⟩:DictEntry)|false=>es.find? λx=>x.key.isStr n) with|some e=>some (some e.val)|none=>if (false||es.any λx=>x.refKey)=true then none else some none)=_
 by_cases q:b=n
 ·subst q;simp
 ·rw [eX q,if_neg q];rfl
theorem i6.get (inj:∀a b,S.attr a=S.attr b->a=b)(h:i6 S W ac ah fs es):fO a fs=some v->∃r,getL (S.attr a) es=some (some r)/\av ac ah v r:=by
 refine i6.rec (motive:=λfs es u8=>fO a fs=some v->∃r,getL (S.attr a) es=some (some r)/\av ac ah v r) (λe=>fe e) (λ{b y r t fs es} hv _ ih e=> ?_) h
 change (if b=a then some y else fO a fs)=some v at e
 by_cases q:b=a
 ·rw [if_pos q] at e
  exact ⟨r,by rw [pX,if_pos (q▸rfl)],cq e▸hv⟩
 ·rw [if_neg q] at e
  refine aZ (ih e) λr' h1 h2=> ?_
  exact ⟨r',by rw [pX,if_neg λz=>q (inj _ _ z)];exact h1,h2⟩
theorem i6.miss (inj:∀a b,S.attr a=S.attr b->a=b)(h:i6 S W ac ah fs es):fO a fs=none->getL (S.attr a) es=some none:=by
 refine i6.rec (motive:=λfs es u8=>fO a fs=none->getL (S.attr a) es=some none) (λu8=>rfl) (λ{b y r t fs es} hv _ ih e=> ?_) h
 change (if b=a then some y else fO a fs)=none at e
 by_cases q:b=a
 ·rw [if_pos q] at e;exact E6 e
 ·rw [if_neg q] at e
  rw [pX,if_neg λz=>q (inj _ _ z)]
  exact ih e
theorem i6.put (inj:∀a b,S.attr a=S.attr b->a=b)(t:Tok)(hv:av ac ah v r)(h:i6 S W ac ah fs es):
  i6 S W ac ah (km a v fs) (putL (S.attr a) (PyData.keyHash W (S.attr a)) (.str (S.attr a) t) r es):=by
 refine i6.rec (motive:=λfs es u8=>i6 S W ac ah (km a v fs) (putL (S.attr a) (PyData.keyHash W (S.attr a)) (.str (S.attr a) t) r es)) (.cons hv .nil) (λ{b y r' t' fs es} hy ht ih=> ?_) h
 unfold putL;rw [AE]
 by_cases q:b=a
 ·subst q
  simp only [Value.isStr,iu,if_true]
  exact .cons hv ht
 ·have ne:(S.attr b==S.attr a)=false:=eX λz=>q (inj _ _ z)
  simp only [Value.isStr,ne,Bool.false_eq_true,if_false,if_neg q]
  exact .cons hy ih
theorem i6.length (h:i6 S W ac ah fs es):es.length=fs.length:=
 i6.rec (motive:=λfs es u8=>es.length=fs.length) rfl (λu8 u8 t=>congrArg (·+1) t) h
theorem qY (a:Nat)(v:SV):∀fs:List (Nat×SV),(km a v fs).length<=fs.length+1
 | []=>bS _
 |p::r=>by
  rw [AE]
  split
  ·simp
  ·have:=qY a v r;simp;assumption
set_option tactic.hygienic true in
theorem xg:∀{fs:List (Nat×SV)} {q:Nat×SV},q∈km a v fs->q.1=a∨∃q' ∈fs,q'.1=q.1
 | [],q,h=>by
  have:q=(a,v):=by simpa [km] using h
  exact .inl (by rw [this])
 |p::r,q,h=>by
  rw [AE] at h
  split at h
  ·rename_i e
   rcases cH h with rfl|h
   ·exact .inl e
   ·exact .inr ⟨q, .tail _ h,rfl⟩
  ·rcases cH h with rfl|h
   ·exact .inr ⟨_, .head _,rfl⟩
   ·rcases xg h with z|⟨q',h',z⟩
    ·exact .inl z
    ·exact .inr ⟨q', .tail _ h',z⟩
end
section
variable {c:Cx}{d:Nat}{m:Str->Option Value}{ac:ao}{ah:dN}{H:HP}{s:Shared}{A:Around}{E:Value->Shared->Prop}
theorem CI (h:av n l v r):handedIn r=true:=by cases h<;>rfl
theorem zY {P:Prop}(e:eC v a H= .ok x H')(k:∀i cc fs,v= .ref i->H[i]? =some (.inst cc fs)->fO a fs=some x->H' =H->P):P:=by
 have B:(du.bad:du SV)= .ok x H'->P:=nofun
 cases v with
 |ref i=>
  change (match H[i]? with|some (.inst _ fs)=>(match fO a fs with|some v=> .ok v H|none=> .bad)|_=> .bad)=du.ok x H' at e
  cases h:H[i]? with
  |none=>rw [h] at e;exact B e
  |some o=>
   rw [h] at e
   cases o with
   |inst cc fs=>
    change (match fO a fs with|some v=> .ok v H|none=> .bad)=du.ok x H' at e
    cases q:fO a fs with
    |none=>rw [q] at e;exact B e
    |some y=>rw [q] at e;cases e;exact k i cc fs rfl h q rfl
   |_=>exact B e
 |_=>exact B e
theorem EY (h:fO a fs=some y):∃q∈fs,q.1=a:=by
 induction fs with
 |nil=>exact fe h
 |cons q fs ih=>
  change (if q.1=a then some q.2 else fO a fs)=some y at h
  split at h
  ·exact ⟨q, .head _,‹_›⟩
  ·refine aZ (ih h) λq' a1 a2=> ?_
   exact ⟨q', .tail _ a1,a2⟩
set_option tactic.hygienic true in
theorem IV (ok:c.Ok d)(hn:aV c m ac ah H s)(hv:av ac ah v rv)(e:eC v a H= .ok x H')
  (k:∀rx t,av ac ah x rx->H' =H->Q rx {s with toks:=t}):wpAny (model c.prog c.w) A (getAttr rv (c.S.attr a) true) Q E s:=by
 refine zY e λi cc fs ev ho hg hH=> ?_
 refine aZ (cL ev hv) λp gP hp=> ?_;subst gP
 refine hn.gE λg T F N=> ?_
 refine x7 (ov (hn.hr.obj i _ p ho hp)) λes n hm hd hf hl=> ?_
 refine aZ (hf.get ok.mW.inj hg) λr h1 h2=> ?_
 refine aZ (EY hg) λq hq eq=> ?_
 obtain ⟨b1,b2⟩:=ok.mW.field cc a (by rw [<-ok.mW.fld,<-eq];exact hl q hq)
 unfold lb at b1
 unfold pc at b2
 simp only [Bool.and_eq_true] at b1 b2
 obtain ⟨_,fK⟩:=b2
 split at fK
 ·rename_i at_ Sm
  exact get_own F (ok.pR T) (InstAt.of_news N hm hd) b1.1.2 b1.1.1.2 Sm fK h1 (CI h2) (k _ _ h2 hH)
 ·exact yb fK
end
noncomputable def stop (e:Expr):Bool:=e.ctorIdx==22||e.ctorIdx==7||e.ctorIdx==26
noncomputable def ol (e:Expr):Bool:=e.ctorIdx==8||e.ctorIdx==9||e.ctorIdx==10
noncomputable def Ao (e:Expr):Bool:=e.ctorIdx==24||e.ctorIdx==25
noncomputable def mO (e:Expr):Bool:= !(e.ctorIdx==0||e.ctorIdx==3||e.ctorIdx==5||e.ctorIdx==15)
noncomputable def jV (e:Expr):Bool:=if h:e.ctorIdx=16 then Expr.Call.elim (motive_1:=λu8=>Bool) e h λf xs u8 u8=>f.ctorIdx==23&& !xs.isEmpty else true
theorem CL {xs ks p}(h:(f.ctorIdx==23&& !xs.isEmpty)=true)(attr:Str)(env:Env)(whole:Sem Value):attributeBase (.Call f xs ks p) attr env whole=whole:=by
 rw [Bool.and_eq_true] at h
 refine Expr.Name.elim (motive_1:=λf=>attributeBase (.Call f xs ks p) attr env whole=whole) f (eq_of_beq h.1) λx q=> ?_
 cases xs with
 |nil=>exact yb h.2
 |cons _ _=>rfl
structure Pl (e:Expr):Prop where
 sub:stop e=false->∀o i,subscripted e false o i=operate [o,i] (getItem o i)
 star:stop e=false->∀aI env,starEach (e::aI) env=(false,eval e env)::starEach aI env
 marks:stop e=false->∀op,behindInMarks op e=false
 fold:stop e=false->∀env x,foldedSetIterable e env x=pure x
 swap:ol e=false->∀t n env,swapsWith e t n env=pure false
 NL:Ao e=false->∀es k p env,swappedStores [.Tuple es k p] e env=pure none
 Xp:mO e=true->∀env whole,isTrue e env whole=(do let v<-whole;standAt e.pos;holding [v] (truthy v))
 base:jV e=true->∀attr env whole,attributeBase e attr env whole=whole
theorem pl (e:Expr):Pl e:=by
 refine @Expr.casesOn Pl e ?_ ?_ ?_ ?_ ?_ ?_ ?_ ?_ ?_ ?_ ?_ ?_ ?_ ?_ ?_ ?_ ?_ ?_ ?_ ?_ ?_ ?_ ?_ ?_ ?_ ?_ ?_<;>intros<;>exact ⟨by first|exact λu8 o i=> @rfl _ (operate [o,i] (getItem o i))|exact λh=>Cg h,by first|exact λu8 u8 u8=>rfl|exact λh=>Cg h,by first|exact λu8 u8=> @rfl _ false|exact λh=>Cg h,by first|exact λu8 u8 x=> @rfl _ (pure x)|exact λh=>Cg h,by first|exact λu8 u8 u8 u8=> @rfl _ (pure false)|exact λh=>Cg h,by first|exact λu8 u8 u8 u8 u8=> @rfl _ (pure none)|exact λh=>Cg h,by first|exact λu8 u8 u8=>rfl|exact λh=>yb h,by first|exact λu8 u8 u8 w=> @rfl _ w|exact CL⟩
theorem r8:∀{ac:ao},(ac.map (·.1)).Nodup->(d,o)∈ac->UpdF d o ac (λo' =>eQ d o' ac)
 |p::r,nd,hm=>by
  rw [dZ,List.nodup_cons] at nd
  have e:(λo' =>eQ d o' (p::r))=λo' =>(if p.1=d then (d,o') else p)::eQ d o' r:=rfl
  rw [e]
  rcases cH hm with rfl|hm
  ·have hr:∀q∈r,q.1≠d:=λq hq e=>nd.1 (e▸ip (f:=(·.1)) hq)
   have:(λo' :Obj=>(if (d,o).1=d then (d,o') else (d,o))::eQ d o' r)=λo' =>(d,o')::r:=by
    funext o';rw [if_pos rfl,qB hr]
   rw [this]
   exact .head hr
  ·have hd:p.1≠d:=λe=>nd.1 (e▸ip (f:=(·.1)) hm)
   simp only [if_neg hd]
   exact .tail hd (r8 nd.2 hm)
section
variable {c:Cx}{d:Nat}{m:Str->Option Value}{ac:ao}{ah:dN}{H:HP}{s:Shared}{A:Around}{E:Value->Shared->Prop}
theorem AM {α:Type}{i:Nat}{f:SO->Option α}{x:α}{P:Prop}(e:(match H[i]? with|some o=>f o|none=>none)=some x)(k:∀o,H[i]? =some o->f o=some x->P):P:=by
 cases h:H[i]? with
 |none=>rw [h] at e;exact fe e
 |some o=>rw [h] at e;exact k o h e
theorem yA {P:PI}{C:Prop}(e:bD P o a v H=some H')(k:∀i cc fs,o= .ref i->H[i]? =some (.inst cc fs)->P.field cc a=true/\fs.length<100->H' =H.set i (.inst cc (km a v fs))->C):C:=by
 cases o with
 |ref i=>
  change (match H[i]? with
   |some (.inst c fs)=>if P.field c a=true/\fs.length<100 then some (H.set i (.inst c (km a v fs))) else none
   |_=>none)=some H' at e
  cases h:H[i]? with
  |none=>rw [h] at e;exact fe e
  |some o=>
   rw [h] at e
   cases o with
   |inst cc fs=>
    change (if P.field cc a=true/\fs.length<100 then some (H.set i (.inst cc (km a v fs))) else none)=some H' at e
    split at e
    ·exact k i cc fs rfl h ‹_› (cq e).symm
    ·exact fe e
   |_=>exact fe e
 |_=>exact fe e
theorem ta (ok:c.Ok d)(hn:aV c m ac ah H s)(ho:av ac ah o ro)(hx:av ac ah x rx)(e:bD c.P o a x H=some H')
  (k:∀az s',aV c m az ah H' s'->bq [] ac ah az ah->Q () s'):wpAny (model c.prog c.w) A (setAttr ro (c.S.attr a) rx) Q E s:=by
 refine yA e λi cc fs eo hO hc eH=> ?_
 refine aZ (cL eo ho) λp gP hp=> ?_;subst gP
 subst eH
 refine hn.gE λg T F N=> ?_
 refine x7 (ov (hn.hr.obj i _ p hO hp)) λes n hm hd hf hl=> ?_
 obtain ⟨b1,b2⟩:=ok.mW.field cc a hc.1
 unfold lb at b1
 unfold pc at b2
 simp only [Bool.and_eq_true,beq_iff_eq] at b1 b2
 have PM:=hf.put (W:=c.w.params) ok.mW.inj (s.toks+1) hx (a:=a)
 have hg:(getL (c.S.attr a) es).isSome=true:=by
  cases hq:fO a fs with
  |some y=>obtain ⟨r,h1,_⟩:=hf.get ok.mW.inj hq;rw [h1];rfl
  |none=>rw [hf.miss ok.mW.inj hq];rfl
 refine set_dict F (ok.pR T) N (InstAt.of_news N hm hd) rfl b1.1.1.1.1 b1.1.1.1.2 b2.1 b1.1.1.2 hg rfl (AF hn.nd hd) ?_ λh' F' N' => ?_
 ·rw [i6.length PM];have:=qY a x fs;lia
 ·refine k _ _ (hn.turn (o' := .inst cc (km a x fs)) T F' N' hp (.inr rfl) hd rfl rfl (.inst (dX hm ?_) (dE hd) (PM.ext (bq.rep (X:= []) hn.nd hd rfl rfl)) ?_)) (bq.rep hn.nd hd rfl rfl)
  ·intro q
   have iY:(p.2,instObj (c.S.dF cc) p.2)∈ac:=by rw [<-(show p.1=p.2 from q)];rw [<-(show p.1=p.2 from q)] at hm;exact hm
   have:=fb hn.nd iY hd
   cases this
  ·intro q hq
   rcases xg hq with z|⟨q',h',z⟩
   ·rw [z,ok.mW.fld];exact hc.1
   ·rw [<-z];exact hl q' h'
theorem cZ {K:Type}[DecidableEq K]{knd:KeyKind prog w K}{kvs:List (K×Value)}(h:o.IsDictOf knd kvs):dV o=false/\fw o=false:=by
 refine j8 h λes ep hx hd u8=> ?_;clear h
 constructor
 ·unfold dV;rw [hx.1,hd];show ("dict"== "tuple"|| "dict"== "range")=false;decide
 ·unfold fw;rw [hd]
theorem pO {K:Type}[DecidableEq K]{knd:KeyKind prog w K}{o:Obj}{kvs:List (K×Value)}(h:o.IsDictOf knd kvs):(kvs.map (·.1)).Nodup:=h.elim λu8 h=>h.elim λu8 h=>h.2.2.2.2
theorem kQ (hn:aV c m ac ah H s){K:Type}[DecidableEq K]{knd:KeyKind c.prog c.w K}{kvs:List (K×Value)}(hm:(a,o)∈ac)(h:o.IsDictOf knd kvs):s.heap.DictOf knd a kvs:=
 Heap.dictOf_iff.mpr ⟨o,hn.addr hm,h⟩
inductive Gj (c:Cx)(ac:ao)(ah:dN)(s:Shared)(a:Addr)(key:Value)(x:Option SV):Prop
 |mk {K:Type} [inst:DecidableEq K] {knd:KeyKind c.prog c.w K} {kvs:List (K×Value)} {k:K} (low:(a==sysModules)=false) (at_:s.heap.DictOf knd a kvs) (is:knd.is k key=true)
  (val:(x=none/\valueAt kvs k=none)∨∃v r,x=some v/\valueAt kvs k=some r/\av ac ah v r):Gj c ac ah s a key x
theorem jx:(bytesKind prog w).is dp.toList (.bytes dp t)=true:=by
 show isBytes dp.toList (.bytes dp t)=true
 unfold isBytes
 simp
theorem Ae {C:SV->SO->Option (Option SV)->Prop}(bad:∀{k o},C k o none)(zi:∀i,C (.int i) .aM (some none))(zb:∀b,C (.bytes b) .aM (some none))(bb:∀b es,C (.bytes b) (.cg es) (some (fR b es)))(ii:∀i es,C (.int i) (.dB es) (some (fR i es)))(k:SV)(o:SO):C k o (hZ k o):=by
 cases o with
 |aM=>cases k with
  |int i=>exact zi i
  |bytes b=>exact zb b
  |_=>exact bad
 |cg es=>cases k with
  |bytes b=>exact bb b es
  |_=>exact bad
 |dB es=>cases k with
  |int i=>exact ii i es
  |_=>exact bad
 |_=>exact bad
theorem ua (hn:aV c m ac ah H s){i:Nat}{p:Nat×Nat}{o:SO}{k:SV}{rk:Value}{x:Option SV}(hp:ah[i]? =some p)(ho:H[i]? =some o)(hk:av ac ah k rk)(e:hZ k o=some x):Gj c ac ah s p.1 rk x:=by
 refine Ae (C:=λk o z=>z=some x->OV c.prog c.w c.S ac ah p o->av ac ah k rk->Gj c ac ah s p.1 rk x) (λe=>fe e) (λi e hO hk=> ?_) (λb e hO hk=> ?_) (λb es e hO hk=> ?_) (λi es e hO hk=> ?_) k o e (ov (hn.hr.obj i o p ho hp)) hk
 ·obtain ⟨_,rfl⟩:=aR hk
  refine mq hO λu8 hm lo hd=> ?_;clear hO
  exact .mk lo (kQ hn hm (hd _ (intKind c.prog c.w))) (intKind_is _ _ _ _) (.inl ⟨(cq e).symm,rfl⟩)
 ·refine uy (bh hk) λu8 u8 dc u8=> ?_;subst dc
  refine mq hO λu8 hm lo hd=> ?_;clear hO
  exact .mk lo (kQ hn hm (hd _ (bytesKind c.prog c.w))) jx (.inl ⟨(cq e).symm,rfl⟩)
 ·refine j8 (bh hk) λu8 u8 dc h1 u8=> ?_;subst dc
  refine LL hO λu8 u8 hm lo hd hp u8=> ?_;clear hO
  exact .mk lo (kQ hn hm hd) jx (cq e▸hp.get (oI h1.symm))
 ·obtain ⟨_,rfl⟩:=aR hk
  refine LL hO λu8 u8 hm lo hd hp u8=> ?_;clear hO
  exact .mk lo (kQ hn hm hd) (intKind_is _ _ _ _) (cq e▸hp.get λa b e=>by rw [e])
theorem AG {v:SV}{C:SV->SO->Option SO->Prop}(bad:∀{k o},C k o none)(zi:∀i,C (.int i) .aM (some (.dB [(i,v)])))(zb:∀b,C (.bytes b) .aM (some (.cg [(b,v)])))(bb:∀b es,es.length<big->C (.bytes b) (.cg es) (some (.cg (kM b v es))))(ii:∀i es,es.length<big->C (.int i) (.dB es) (some (.dB (kM i v es))))(k:SV)(o:SO):C k o (uG k v o):=by
 cases o with
 |aM=>cases k with
  |int i=>exact zi i
  |bytes b=>exact zb b
  |_=>exact bad
 |cg es=>cases k with
  |bytes b=>
   show C _ _ (if es.length<big then some (.cg (kM b v es)) else none)
   split
   ·exact bb b es ‹_›
   ·exact bad
  |_=>exact bad
 |dB es=>cases k with
  |int i=>
   show C _ _ (if es.length<big then some (.dB (kM i v es)) else none)
   split
   ·exact ii i es ‹_›
   ·exact bad
  |_=>exact bad
 |_=>exact bad
theorem ya {o k x:SV}{H' :HP}{P:Prop}(e:jL o k x H=some H')(q:∀i d d',o= .ref i->H[i]? =some d->uG k x d=some d'->H' =H.set i d'->P):P:=by
 cases o with
 |ref i=>
  refine AM (f:=λd=>match uG k x d with|some d=>some (H.set i d)|none=>none) e λd hd e=> ?_
  cases h:uG k x d with
  |none=>rw [h] at e;exact fe e
  |some d' =>rw [h] at e;exact q i d d' rfl hd h (cq e).symm
 |_=>exact fe e
section
variable {i:Nat}{p:Nat×Nat}{rk rx:Value}{Q:Unit->Shared->Prop}{o' :SO}
theorem rP (hn:aV c m ac ah H s)(hp:ah[i]? =some p)(q:∀az s',aV c m az ah (H.set i o') s'->bq [] ac ah az ah->Q () s'){K:Type}[DecidableEq K]{knd:KeyKind c.prog c.w K}{kvs:List (K×Value)}{kk:K}(hm:(p.1,a)∈ac)(hd:a.IsDictOf knd kvs)(ui:knd.is kk rk=true)(wV:kvs.length<=sizeLine)
  (hb:∀b:Obj,b.IsDictOf knd (stored kvs kk rx)->bq [] ac ah (eQ p.1 b ac) ah->iZ c.prog c.w c.S (eQ p.1 b ac) ah p o'):wpAny (model c.prog c.w) A (setItem (.ref p.1) rk rx) Q E s:=by
 refine hn.gE λg T F N=> ?_
 refine wpAny_setItem_pairs ui (kQ hn hm hd) (λh' hD hs=> ?_) wV
 refine aZ (Heap.dictOf_iff.mp hD) λb GU QS=> ?_
 have z:=N _ hm
 refine x7 ((AF (o' :=b) hn.nd hm).split) λpre post e1 e2 a1 a2=> ?_
 have N' :News g c.L h' (eQ p.1 b ac):=by rw [e2];rw [e1] at N;exact news_set N a1 a2 hs GU
 have X:=bq.rep (X:= []) (ah:=ah) (o' :=b) hn.nd hm (cZ hd).1 (cZ hd).2
 exact q _ _ (hn.turn T (F.change hs z.2.1 z.2.2) N' hp (.inl rfl) hm (cZ hd).1 (cZ hd).2 (hb b QS X)) X
theorem Lc (hn:aV c m ac ah H s){o:SO}{k x:SV}(hp:ah[i]? =some p)(hO:H[i]? =some o)(hk:av ac ah k rk)(hx:av ac ah x rx)(e:uG k x o=some o')(q:∀az s',aV c m az ah (H.set i o') s'->bq [] ac ah az ah->Q () s'):wpAny (model c.prog c.w) A (setItem (.ref p.1) rk rx) Q E s:=by
 refine AG (v:=x) (C:=λk o z=>z=some o'->OV c.prog c.w c.S ac ah p o->av ac ah k rk->wpAny (model c.prog c.w) A (setItem (.ref p.1) rk rx) Q E s) (λe=>fe e) (λi e hO hk=> ?_) (λb e hO hk=> ?_) (λb es hl e hO hk=> ?_) (λi es hl e hO hk=> ?_) k o e (ov (hn.hr.obj i o p hO hp)) hk
 ·obtain ⟨_,rfl⟩:=aR hk
  refine mq hO λu8 hm lo hd=> ?_;clear hO
  exact rP hn hp q hm (hd _ (intKind c.prog c.w)) (intKind_is _ _ _ _) (Nat.zero_le _) λb hb X=>cq e▸ .dB (dE hm) lo hb (.cons rfl (hx.ext X) .nil) (by show 1<=4096;decide)
 ·refine j8 (bh hk) λu8 u8 dc h1 h2=> ?_;subst dc
  refine mq hO λu8 hm lo hd=> ?_;clear hO
  exact rP hn hp q hm (hd _ (bytesKind c.prog c.w)) jx (Nat.zero_le _) λb hb X=>cq e▸ .cg (dE hm) lo hb (.cons ⟨h1.symm,h2⟩ (hx.ext X) .nil) (by show 1<=4096;decide)
 ·refine j8 (bh hk) λu8 u8 dc h1 h2=> ?_;subst dc
  refine LL hO λu8 u8 hm lo hd AY sM=> ?_;clear hO
  exact rP hn hp q hm hd jx (by rw [<-AY.length,eW];exact cy sM (by unfold big;decide)) λb hb X=>cq e▸ .cg (dE hm) lo hb ((AY.put (oI h1.symm) ⟨h1.symm,h2⟩ hx (pO hd)).ext X) (cy (lT x _) hl)
 ·obtain ⟨_,rfl⟩:=aR hk
  refine LL hO λu8 u8 hm lo hd AY sM=> ?_;clear hO
  exact rP hn hp q hm hd (intKind_is _ _ _ _) (by rw [<-AY.length,eW];exact cy sM (by unfold big;decide)) λb hb X=>cq e▸ .dB (dE hm) lo hb ((AY.put (λa b e=>by rw [e]) rfl hx (pO hd)).ext X) (cy (lT x _) hl)
end
theorem Al (ok:c.Ok d)(hn:aV c m ac ah H s)(ho:av ac ah o ro)(hk:av ac ah k rk)(hx:av ac ah x rx)(e:jL o k x H=some H')
  (q:∀az s',aV c m az ah H' s'->bq [] ac ah az ah->Q () s'):wpAny (model c.prog c.w) A (setItem ro rk rx) Q E s:=by
 refine ya e λi d d' eo hO hd eH=> ?_
 refine aZ (cL eo ho) λp gP hp=> ?_;subst gP
 subst eH
 exact Lc hn hp hO hk hx hd q
theorem G5 {P:Prop}(e:yg k o=some o')(q:∀es b,o= .cg es->k= .bytes b->(fR b es).isSome=true->o' = .cg (p8 b es)->P):P:=by
 cases o with
 |cg es=>cases k with
  |bytes b=>
   change (if (fR b es).isSome then some (.cg (p8 b es)) else none)=some o' at e
   split at e
   ·exact q es b rfl rfl ‹_› (cq e).symm
   ·exact fe e
  |_=>exact fe e
 |_=>exact fe e
theorem yl {o k:SV}{H' :HP}{P:Prop}(e:hW o k H=some H')(q:∀i d d',o= .ref i->H[i]? =some d->yg k d=some d'->H' =H.set i d'->P):P:=by
 cases o with
 |ref i=>
  refine AM (f:=λd=>match yg k d with|some d=>some (H.set i d)|none=>none) e λd hd e=> ?_
  cases h:yg k d with
  |none=>rw [h] at e;exact fe e
  |some d' =>rw [h] at e;exact q i d d' rfl hd h (cq e).symm
 |_=>exact fe e
theorem zT (ok:c.Ok d)(hn:aV c m ac ah H s)(ho:av ac ah o ro)(hk:av ac ah k rk)(e:hW o k H=some H')
  (q:∀az s',aV c m az ah H' s'->bq [] ac ah az ah->Q () s'):wpAny (model c.prog c.w) A (delItem ro rk) Q E s:=by
 refine yl e λi d d' eo hO BP eH=>G5 BP λes b ed ek Vf Wj=> ?_
 subst eH ed ek Wj
 refine aZ (cL eo ho) λp gP hp=> ?_;subst gP
 refine j8 (bh hk) λdp t dc h1 h2=> ?_;subst dc
 refine hn.gE λg T F N=> ?_
 refine LL (ov (hn.hr.obj i _ p hO hp)) λu8 u8 hm lo hd AY hl=> ?_
 have X:∀b,bq [] ac ah (eQ p.1 b ac) ah:=λb=>bq.rep hn.nd hm (cZ hd).1 (cZ hd).2
 refine kob_del F N (r8 hn.nd hm) hd jx ?_ (by rw [<-AY.length,eW];exact cy hl (by unfold big;decide)) λh' b F' N' hb=> ?_
 ·rcases AY.get (oI h1.symm) with ⟨z,_⟩|⟨v,r,_,z,_⟩
  ·rw [z] at Vf;cases Vf
  ·rw [z];rfl
 ·exact q _ _ (hn.turn T F' N' hp (.inl rfl) hm (cZ hd).1 (cZ hd).2 (.cg (dE hm) lo hb ((AY.del (oI h1.symm) (pO hd)).ext (X b)) (cy (qW _) hl))) (X b)
end
theorem mw (value:Expr)(b:Array UInt8)(t:Tok)(r:Value):letTemporaryGo value (.bytes b t) r=pure ():=by
 unfold letTemporaryGo
 cases value<;>rfl
theorem cj {h g:Heap}{EE:List Value}(N:News g L h ac)(hm:(a,listOf EE.toArray n)∈ac):h.IsList a EE.toArray:=⟨_,(N _ hm).1,rfl,n,rfl⟩
theorem sE (N:News g L h ac)(hm:(a,jH EE)∈ac):IsTup h a EE.toArray:=⟨_,(N _ hm).1,rfl,0,rfl⟩
theorem OW (h:KBw.bInts dp=b):∀k∈b,0<=k/\k<256:=λk hk=>KBw.ints_in (h▸hk)
section
variable {c:Cx}{d:Nat}{m:Str->Option Value}{ac:ao}{ah:dN}{H:HP}{s:Shared}{A:Around}{E:Value->Shared->Prop}
theorem jv (hn:aV c m ac ah H s){n t:Nat}(T:KtsTurn c.fs c.g₀ g)(F:Fr g c.L h' m)(N:News g c.L h' ((D,listOf rs.toArray n)::ac))(lt:∀q∈ac,q.1<D)(hv:aH ac ah vs rs)(hl:vs.length<=big):
  aV c m ((D,listOf rs.toArray n)::ac) (ah++ [(D,D)]) (H++ [.list vs]) {s with heap:=h',toks:=t}/\bq [] ac ah ((D,listOf rs.toArray n)::ac) (ah++ [(D,D)])/\av ((D,listOf rs.toArray n)::ac) (ah++ [(D,D)]) (.ref H.length) (.ref D):=
 have X:bq [] ac ah ((D,listOf rs.toArray n)::ac) (ah++ [(D,D)]):=bq.app _ _
 ⟨hn.new T F N lt (.list (.head _) (hv.ext X) hl),X,sb hn⟩
theorem mF (h:cP i n=true): -(n:Int)<=i/\i<n:=by
 unfold cP at h
 simpa using h
theorem HO {α:Type}{x:α}{P:Prop}(e:du.bad= .ok x H'):P:=nomatch e
theorem oH {α:Type}{v x:α}{P:Prop}(e:du.ok v H= .ok x H')(k:x=v->H' =H->P):P:=by cases e;exact k rfl rfl
theorem Lz {α:Type}{c:Prop}[Decidable c]{v x:α}{P:Prop}(e:(if c then du.ok v H else .bad)= .ok x H')(k:c->x=v->H' =H->P):P:=by
 split at e
 ·exact oH e (k ‹_›)
 ·exact HO e
theorem Vj {vs:List SV}{P:Prop}(e:(match cP i vs.length,vs[cu i vs.length]? with|true,some v=>du.ok v H|_,_=> .bad)= .ok x H')(k:cP i vs.length=true->vs[cu i vs.length]? =some x->H' =H->P):P:=by
 cases h:cP i vs.length with
 |false=>rw [h] at e;exact HO e
 |true=>
  rw [h] at e
  cases q:vs[cu i vs.length]? with
  |none=>rw [q] at e;exact HO e
  |some y=>rw [q] at e;exact oH e λa b=>k h (a▸q) b
theorem uT {C:SV->SV->du SV->Prop}(bad:∀{a b},C a b .bad)(bi:∀b i,C (.bytes b) (.int i) (dH (.bytes b) (.int i) H))(ti:∀vs i,C (.tuple vs) (.int i) (dH (.tuple vs) (.int i) H))
  (li:∀j vs i,H[j]? =some (.list vs)->C (.ref j) (.int i) (match cP i vs.length,vs[cu i vs.length]? with|true,some v=>du.ok v H|_,_=> .bad)) (dk:∀j o k v,H[j]? =some o->hZ k o=some (some v)->C (.ref j) k (.ok v H)) (o i:SV):C o i (dH o i H):=by
 cases o with
 |bytes b=>cases i with
  |int i=>exact bi b i
  |_=>exact bad
 |tuple vs=>cases i with
  |int i=>exact ti vs i
  |_=>exact bad
 |ref j=>
  have D:∀o k,H[j]? =some o->C (.ref j) k (match hZ k o with|some (some v)=> .ok v H|_=> .bad):=λo k ho=>by
   cases q:hZ k o with
   |none=>exact bad
   |some x=>cases x with
    |none=>exact bad
    |some v=>exact dk j o k v ho q
  show C (.ref j) i (match H[j]? with
   |some (.list vs)=>match i with
    | .int i=>match cP i vs.length,vs[cu i vs.length]? with
     |true,some v=> .ok v H
     |_,_=> .bad
    |_=> .bad
   |some o=>match hZ i o with
    |some (some v)=> .ok v H
    |_=> .bad
   |none=> .bad)
  cases hO:H[j]? with
  |none=>exact bad
  |some o=>
   cases o with
   |list vs=>cases i with
    |int i=>exact li j vs i hO
    |_=>exact bad
   |_=>exact D _ i hO
 |_=>exact bad
theorem LF {i:Int}{n m:Nat}(e:n=m)(r1: -(n:Int)<=i)(r2:i<n):seqIndex? i m=some (cu i n):=by
 subst e
 unfold seqIndex? cu
 by_cases h0:0<=i
 ·have h1:¬i<0:=by exact iR ‹_›
  simp [h1,h0,r2]
 ·have h1:i<0:=by lia
  have h2:0<=i+(n:Int):=by lia
  have h3:i+(n:Int)<n:=by lia
  simp [h1,h0,h2,h3]
section
variable {value slice:Expr}{Q:Value->Shared->Prop}
theorem Dd (hs:stop slice=false)(hl:(KBw.bInts dp).length<=big)(e:dH (.bytes (KBw.bInts dp)) (.int i) H= .ok x H')(k:∀n t t',x= .int n->H' =H->Q (.int n t) {s with toks:=t' }):
  wpAny (model c.prog c.w) A (subscriptTail value slice (.bytes dp t) (.int i u)) Q E s:=by
 refine Lz (show (if cP i (KBw.bInts dp).length=true then du.ok (SV.int ((KBw.bInts dp).getD (cu i (KBw.bInts dp).length) 0)) H else .bad)= .ok x H' from e) λhr hx hH=> ?_
 obtain ⟨r1,r2⟩:=mF hr
 have sM:(KBw.bInts dp).length<=4096:=hl
 by_cases h0:0<=i
 ·exact KBw.item_K rfl (by exact lA ‹_› rfl) h0 r2 (λt' k' u8 u8=>k _ _ _ (hx.trans (by rw [show cu i (KBw.bInts dp).length=i.toNat from if_pos h0])) hH) ((pl _).sub hs _ _) (mw _ _ _)
 ·exact KBc.itemR_K rfl (by exact lA ‹_› rfl) r1 (by lia) (λt' k' u8 u8=>k _ _ _ (hx.trans (by rw [show cu i (KBw.bInts dp).length=(i+(KBw.bInts dp).length).toNat from if_neg h0])) hH) ((pl _).sub hs _ _) (mw _ _ _)
theorem Ic (hn:aV c m ac ah H s)(hs:stop slice=false){vs:List SV}(hm:(a,jH aC)∈ac)(hv:aH ac ah vs aC)(hl:vs.length<=big)(hr:cP i vs.length=true)(hx:vs[cu i vs.length]? =some x)
  (k:∀rx,av ac ah x rx->Q rx s):wpAny (model c.prog c.w) A (subscriptTail value slice (.ref a) (.int i u)) Q E s:=by
 obtain ⟨r1,r2⟩:=mF hr
 refine hn.gE λg T F N=> ?_
 refine aZ (hv.at hx) λr Nv sN=> ?_
 have sM:vs.length<=4096:=hl
 exact item_tupleT (sE N hm) (j:=cu i vs.length) (by lia) (by lia) (LF hv.length r1 r2) Nv (k _ sN) ((pl _).sub hs _ _)
theorem Ig (hn:aV c m ac ah H s)(hs:stop slice=false)(hm:(a,listOf aC.toArray n)∈ac)(hv:aH ac ah vs aC)(hl:vs.length<=big)(hr:cP i vs.length=true)(hx:vs[cu i vs.length]? =some x)
  (k:∀rx,av ac ah x rx->Q rx s):wpAny (model c.prog c.w) A (subscriptTail value slice (.ref a) (.int i u)) Q E s:=by
 obtain ⟨r1,r2⟩:=mF hr
 refine hn.gE λg T F N=> ?_
 refine aZ (hv.at hx) λr Nv sN=> ?_
 have hle:vs.length=aC.length:=hv.length
 have sM:vs.length<=4096:=hl
 have hL:=cj N hm
 by_cases h0:0<=i
 ·rw [show cu i vs.length=i.toNat from if_pos h0] at Nv
  exact tail_any hL.typeIs slot_list_getitem.lookup (wpAny_getItem_list hL h0 (by lia) (by simpa using Nv) (k _ sN)) ((pl _).sub hs _ _)
 ·rw [show cu i vs.length=(i+vs.length).toNat from if_neg h0,hle] at Nv
  exact tail_any hL.typeIs slot_list_getitem.lookup (wpAny_getItem_list_neg hL (by lia) (by simp;lia) (by lia) (by simpa using Nv) (k _ sN)) ((pl _).sub hs _ _)
theorem IQ (hn:aV c m ac ah H s)(hs:stop slice=false){j:Nat}{p:Nat×Nat}{o:SO}{i x:SV}{ri:Value}(hp:ah[j]? =some p)(hO:H[j]? =some o)(hi:av ac ah i ri)(hx:hZ i o=some (some x))
  (k:∀rx t,av ac ah x rx->Q rx {s with toks:=t}):wpAny (model c.prog c.w) A (subscriptTail value slice (.ref p.1) ri) Q E s:=by
 obtain ⟨lo,Fp,LB,Gd⟩:=ua hn hp hO hi hx
 rcases Gd with ⟨z,_⟩|⟨v,r,z1,z2,z3⟩
 ·exact E6 z
 ·cases z1
  exact tail_any Fp.typeIs slot_dict_getitem.lookup (wpAny_getItem_of LB Fp.mapOf z2 (k _ _ z3)) ((pl _).sub hs _ _)
end
theorem GW (ok:c.Ok d)(hn:aV c m ac ah H s){value slice:Expr}(hs:stop slice=false){o i x:SV}{ro ri:Value}{H' :HP}{Q:Value->Shared->Prop}(ho:av ac ah o ro)(hi:av ac ah i ri)(e:dH o i H= .ok x H')
  (k:∀rx t,av ac ah x rx->H' =H->Q rx {s with toks:=t}):wpAny (model c.prog c.w) A (subscriptTail value slice ro ri) Q E s:=by
 refine uT (C:=λo i z=>z= .ok x H'->av ac ah o ro->av ac ah i ri->wpAny (model c.prog c.w) A (subscriptTail value slice ro ri) Q E s) (λe=>HO e) (λb i e ho hi=> ?_) (λvs i e ho hi=> ?_) (λj vs i hO e ho hi=> ?_) (λj o k' v hO hx e ho hi=> ?_) o i e ho hi
 ·refine j8 (bh ho) λdp t dc wI h2=> ?_;subst dc;subst wI
  obtain ⟨u,rfl⟩:=aR hi
  exact Dd hs h2 e λn t t' hx hH=>k _ _ (hx▸ .int _ _) hH
 ·refine x7 (cS ho) λaC a dc h1 h2 h3=> ?_;subst dc
  obtain ⟨u,rfl⟩:=aR hi
  exact Vj e λhr hx hH=>Ic hn hs h1 h2 h3 hr hx λrx v=>k rx s.toks v hH
 ·refine aZ (cL rfl ho) λp gP hp=> ?_;subst gP
  obtain ⟨u,rfl⟩:=aR hi
  refine j8 (gk (hn.hr.obj j _ p hO hp)) λaC n h1 h2 h3=> ?_
  exact Vj e λhr hx hH=>Ig hn hs h1 h2 h3 hr hx λrx v=>k rx s.toks v hH
 ·refine aZ (cL rfl ho) λp gP hp=> ?_;subst gP
  exact oH e λhv hH=>IQ hn hs hp hO hi hx λrx t w=>k rx t (hv▸w) hH
theorem tY {a b:Int}(h:0<b):a.fdiv b=a/b:=Int.fdiv_eq_ediv_of_nonneg a (by exact Int.le_of_lt ‹_›)
theorem xY {a b:Int}(h:0<b):a.fmod b=a%b:=Int.fmod_eq_emod_of_nonneg a (by exact Int.le_of_lt ‹_›)
noncomputable def lK:wA->Operator
 | .add=> .Add| .sub=> .Sub| .mul=> .Mult| .fdiv=> .FloorDiv| .mod=> .Mod| .band=> .BitAnd| .bor=> .BitOr| .shl=> .LShift| .shr=> .RShift
theorem pow_pos (n:Nat):(0:Int)<2^n:=Int.pow_pos (by decide)
theorem u7 {C:wA->SV->SV->du SV->Prop}(bad:∀{op a b},C op a b .bad)(ii:∀op i j,C op (.int i) (.int j) (cF op (.int i) (.int j) H))(bb:∀x y,C .add (.bytes x) (.bytes y) (if x.length+y.length<=big then .ok (.bytes (x++y)) H else .bad))
  (rr:∀i j x y,H[i]? =some (.list x)->H[j]? =some (.list y)->C .add (.ref i) (.ref j) (if x.length+y.length<=big then .ok (.ref H.length) (H++ [.list (x++y)]) else .bad)) (op:wA) (a b:SV):C op a b (cF op a b H):=by
 cases a with
 |int i=>cases b with
  |int j=>exact ii op i j
  |_=>exact bad
 |bytes x=>cases b with
  |bytes y=>cases op with
   |add=>exact bb x y
   |_=>exact bad
  |_=>exact bad
 |ref i=>cases b with
  |ref j=>cases op with
   |add=>
    show C .add (.ref i) (.ref j) (match wA.add,H[i]?,H[j]? with
     | .add,some (.list a),some (.list b)=>if a.length+b.length<=big then .ok (.ref H.length) (H++ [.list (a++b)]) else .bad
     |_,_,_=> .bad)
    cases q1:H[i]? with
    |none=>exact bad
    |some o1=>cases o1 with
     |list x=>cases q2:H[j]? with
      |none=>exact bad
      |some o2=>cases o2 with
       |list y=>exact rr i j x y q1 q2
       |_=>exact bad
     |_=>exact bad
   |_=>exact bad
  |_=>exact bad
 |_=>exact bad
theorem Gi (e:cF op (.int i) (.int j) H= .ok x H')(k:∀n t t',x= .int n->H' =H->Q (.int n t) {s with toks:=t' }):wpAny (model c.prog c.w) A (binaryOp (lK op) (.int i t) (.int j u)) Q E s:=by
 cases op with
 |add=>exact oH e λa b=>PyProof.Rows.add_int (k _ _ _ a b)
 |sub=>exact oH e λa b=>PyProof.Rows.sub_int (k _ _ _ a b)
 |mul=>exact Lz e λhz a b=>PyProof.Rows.mul_int (k _ _ _ a b) (IntMulOk.of_left (intBits_le_64 (by lia) (by lia)))
 |fdiv=>exact Lz e λhz a b=>PyProof.Rows.floordiv_int (by lia) (by rw [tY hz.1];exact k _ _ _ a b) (.inl (PyProof.noPylong_small (by lia)))
 |mod=>exact Lz e λhz a b=>PyProof.Rows.mod_int' (by lia) (by rw [xY hz.1];exact k _ _ _ a b)
 |band=>exact oH e λa b=>PyProof.Rows.and_int (k _ _ _ a b)
 |bor=>exact oH e λa b=>PyProof.Rows.or_int (k _ _ _ a b)
 |shl=>exact Lz e λhz a b=>PyProof.Rows.lshift_int_small hz.1 (by lia) (by lia) (k _ _ _ a b)
 |shr=>exact Lz e λhz a b=>PyProof.Rows.rshift_int hz.1 (by rw [tY (pow_pos _)];exact k _ _ _ a b)
theorem Du (hn:aV c m ac ah H s){i j:Nat}{p q:Nat×Nat}{vs ws:List SV}{Q:Value->Shared->Prop}(hi:H[i]? =some (.list vs))(hj:H[j]? =some (.list ws))(hp:ah[i]? =some p)(hq:ah[j]? =some q)(hz:vs.length+ws.length<=big)
  (k:∀az bM s' rx,aV c m az bM (H++ [.list (vs++ws)]) s'->bq [] ac ah az bM->av az bM (.ref H.length) rx->Q rx s'):wpAny (model c.prog c.w) A (binaryOp .Add (.ref p.1) (.ref q.1)) Q E s:=by
 refine j8 (gk (hn.hr.obj i _ p hi hp)) λGH n1 hm hv hl=> ?_
 refine j8 (gk (hn.hr.obj j _ q hj hq)) λJ5 n2 iY sN sM=> ?_
 have Vq:vs.length+ws.length<=4096:=hz
 refine hn.gE λg T F N=> ?_
 refine PyProof.Rows.add_lists F N (cj N hm) (cj N iY) (λh' F' N' => ?_) (by rw [<-hv.length,<-sN.length,eW];exact lA ‹_› rfl)
 obtain ⟨a1,a2,a3⟩:=jv (t:=s.toks) (n:=0) hn T F' N' hn.lt (hv.append sN) (by rw [aL];exact hz)
 exact k _ _ _ _ a1 a2 a3
theorem FJ (ok:c.Ok d)(hn:aV c m ac ah H s){op:wA}{a b x:SV}{ra rb:Value}{H' :HP}{Q:Value->Shared->Prop}(ha:av ac ah a ra)(hb:av ac ah b rb)(e:cF op a b H= .ok x H')
  (k:∀az bM s' rx,aV c m az bM H' s'->bq [] ac ah az bM->av az bM x rx->Q rx s'):wpAny (model c.prog c.w) A (binaryOp (lK op) ra rb) Q E s:=by
 refine u7 (C:=λop a b z=>z= .ok x H'->av ac ah a ra->av ac ah b rb->wpAny (model c.prog c.w) A (binaryOp (lK op) ra rb) Q E s) (λe=>HO e) (λop i j e ha hb=> ?_) (λx' y e ha hb=> ?_) (λi j x' y hi hj e ha hb=> ?_) op a b e ha hb
 ·obtain ⟨t,rfl⟩:=aR ha
  obtain ⟨u,rfl⟩:=aR hb
  exact Gi e λn t t' hx hH=>by subst hx hH;exact k _ _ _ _ (hn.toks t') bq.refl (.int n t)
 ·refine j8 (bh ha) λdp t dc h1 u8=> ?_;subst dc
  refine j8 (bh hb) λPw t' dc gp u8=> ?_;subst dc
  refine Lz e λhz hx hH=> ?_
  subst hx hH
  have Vq:x'.length+y.length<=4096:=hz
  exact KBa.add_K h1.symm gp.symm (by exact lA ‹_› rfl) λWl k' hb=>k _ _ _ _ (hn.toks k') bq.refl (.bytes _ _ hb (by rw [aL];exact hz))
 ·refine aZ (cL rfl ha) λp gP hp=> ?_;subst gP
  refine aZ (cL rfl hb) λq gP hq=> ?_;subst gP
  unfold big at e
  by_cases hz:x'.length+y.length<=big
  ·refine oH ((if_pos hz).symm.trans e) λhx hH=> ?_
   subst hx hH
   exact Du hn hi hj hp hq hz k
  ·exact HO ((if_neg hz).symm.trans e)
end
end Mine
namespace Mine
open PySem PySem.W PySem.Calls PyProof.Rows PySem.Spec PySem.SeqAt
theorem ju:Slot "bytes" (cmpInfo .Eq).2.2 "bytes.__eq__":=FB.slot_bytes_eq
theorem jD:Slot "bytes" (cmpInfo .NotEq).2.2 "bytes.__ne__":=FB.slot_bytes_ne
theorem eO:isSubtype (.type "NoneType") (.type "bytes")=pure false:=by rw [isSubtype_type];kernel_rfl
theorem jz:isSubtype (.type "bytes") (.type "NoneType")=pure false:=by rw [isSubtype_type];kernel_rfl
theorem nj (a:Array UInt8)(t:Tok):Gives (Builtin.«NoneType.__eq__» ⟨[.none, .bytes a t], []⟩) (.val (Value.notImplemented)):=
 .of_wp λM A E s Q h=>by obtain ⟨hp,g,d,tk,os⟩:=s;wp_walk;exact ⟨_,rfl,h⟩
theorem nA (a:Array UInt8)(t:Tok):Gives (Builtin.«NoneType.__ne__» ⟨[.none, .bytes a t], []⟩) (.val (Value.notImplemented)):=
 .of_wp λM A E s Q h=>by obtain ⟨hp,g,d,tk,os⟩:=s;wp_walk;exact ⟨_,rfl,h⟩
theorem nR (a:Array UInt8)(t:Tok):Gives (Builtin.«bytes.__eq__» ⟨[.bytes a t, .none], []⟩) (.val (Value.notImplemented)):=by
 refine .of_wp λM A E s Q hq=> ?_
 show wpAny M A (isInstance .none (.type "bytes")>>=λr=>_) _ E s
 refine ar (wpAny_isInstance (T:= "NoneType") rfl eO ?_)
 show wpAny M A (rule _>>=λu8=>ret .notImplemented) _ E s
 exact ar (wpAny_rule (br ⟨_,rfl,hq⟩))
theorem ny (a:Array UInt8)(t:Tok):Gives (Builtin.«bytes.__ne__» ⟨[.bytes a t, .none], []⟩) (.val (Value.notImplemented)):=by
 refine .of_wp λM A E s Q hq=> ?_
 show wpAny M A (isInstance .none (.type "bytes")>>=λr=>_) _ E s
 refine ar (wpAny_isInstance (T:= "NoneType") rfl eO ?_)
 show wpAny M A (rule _>>=λu8=>ret .notImplemented) _ E s
 exact ar (wpAny_rule (br ⟨_,rfl,hq⟩))
section
variable {A:Around}{s:Shared}
theorem RcAt.gZ (b:Array UInt8)(u:Tok):RcAt A s .none (.bytes b u) false:=λprog w E Q h=>
 rc_eq_decline_or (k:=false) rfl (dT s b u) (by decide) jz F.slot_NoneType_eq ju
  (λu8 hq=>call_gives F.slot_NoneType_eq rfl F.entry_NoneType_eq (F.args_NoneType_eq_2 _ _) (nj b u) hq)
  (λu8 hq=>call_gives ju (dT s b u) FB.entry_bytes_eq (FB.args_bytes_eq_2 _ _) (nR b u) hq)
  (λu8 hq=>cY (rfl:isSame .none (.bytes b u)=pure false) hq) (.inl rfl) h
theorem RcAt.gX (b:Array UInt8)(u:Tok):RcAt A s (.bytes b u) .none false:=λprog w E Q h=>
 rc_eq_decline_or (k:=false) (dT s b u) rfl (by decide) eO FB.slot_bytes_eq F.slot_NoneType_eq_refl
  (λu8 hq=>call_gives FB.slot_bytes_eq (dT s b u) FB.entry_bytes_eq (FB.args_bytes_eq_2 _ _) (nR b u) hq)
  (λu8 hq=>call_gives F.slot_NoneType_eq_refl rfl F.entry_NoneType_eq (F.args_NoneType_eq_2 _ _) (nj b u) hq)
  (λu8 hq=>cY (rfl:isSame (.bytes b u) .none=pure false) hq) (.inl rfl) h
theorem RcNeAt.gZ (b:Array UInt8)(u:Tok):RcNeAt A s .none (.bytes b u) true:=λprog w E Q h=>
 rc_ne_decline_or (k:=false) rfl (dT s b u) (by decide) jz F.slot_NoneType_ne jD
  (λu8 hq=>call_gives F.slot_NoneType_ne rfl F.entry_NoneType_ne (F.args_NoneType_ne_2 _ _) (nA b u) hq)
  (λu8 hq=>call_gives jD (dT s b u) FB.entry_bytes_ne (FB.args_bytes_ne_2 _ _) (ny b u) hq)
  (λu8 hq=>cY (rfl:isSame .none (.bytes b u)=pure false) hq) (.inl rfl) h
theorem RcNeAt.gX (b:Array UInt8)(u:Tok):RcNeAt A s (.bytes b u) .none true:=λprog w E Q h=>
 rc_ne_decline_or (k:=false) (dT s b u) rfl (by decide) eO FB.slot_bytes_ne F.slot_NoneType_ne_refl
  (λu8 hq=>call_gives FB.slot_bytes_ne (dT s b u) FB.entry_bytes_ne (FB.args_bytes_ne_2 _ _) (ny b u) hq)
  (λu8 hq=>call_gives F.slot_NoneType_ne_refl rfl F.entry_NoneType_ne (F.args_NoneType_ne_2 _ _) (nA b u) hq)
  (λu8 hq=>cY (rfl:isSame (.bytes b u) .none=pure false) hq) (.inl rfl) h
theorem EqAt.gZ (b:Array UInt8)(u:Tok):EqAt A s .none (.bytes b u) false:=λprog w E Q h=>by
 unfold eqBool
 refine wpAny_holding ?_
 refine wpAny_ite_split (λKB=>nomatch KB) (λu8=> ?_)
 exact ar (RcAt.gZ b u prog w E _ (wpAny_truthy_bool h))
theorem EqAt.gX (b:Array UInt8)(u:Tok):EqAt A s (.bytes b u) .none false:=λprog w E Q h=>by
 unfold eqBool
 refine wpAny_holding ?_
 refine wpAny_ite_split (λKB=>nomatch KB) (λu8=> ?_)
 exact ar (RcAt.gX b u prog w E _ (wpAny_truthy_bool h))
theorem MU (h1:KBw.bInts a=x)(h2:KBw.bInts b=y):(a.toList==b.toList)=(x==y):=by
 rw [Bool.eq_iff_iff]
 constructor
 ·intro h
  have:a=b:=by
   have:=eq_of_beq h
   exact Array.toList_inj.mp this
  subst this
  rw [<-h1,<-h2];exact iu _
 ·intro h
  have:=eq_of_beq h
  rw [uM ((h1.trans this).trans h2.symm)]
  exact iu _
theorem j0 (N:News g L h ac)(hm:(a,jH EE)∈ac):h.IsTuple a EE.toArray:=⟨_,(N _ hm).1,rfl,0,rfl⟩
theorem ym {P:Prop}(h:uD f (x::xs) (y::ys)=some b)(k:∀a b',f x y=some a->uD f xs ys=some b'->b=(a&&b')->P):P:=by
 change (match f x y,uD f xs ys with|some a,some b=>some (a&&b)|_,_=>none)=some b at h
 cases h1:f x y with
 |none=>rw [h1] at h;exact fe h
 |some a=>
  cases h2:uD f xs ys with
  |none=>rw [h1,h2] at h;exact fe h
  |some b' =>rw [h1,h2] at h;exact k a b' h1 h2 (cq h).symm
theorem Bt:∀{ys:List SV} {b:Bool},uD f xs ys=some b->
  ∃e:Nat->Bool,(∀j x y,xs[j]? =some x->ys[j]? =some y->f x y=some (e j))/\b=((List.range (min xs.length ys.length)).all e&&xs.length==ys.length):=by
 induction xs with
 |nil=>
  intro ys b h
  cases ys with
  |nil=>exact ⟨λu8=>true,λj x y h=>fe h,(cq h).symm⟩
  |cons y ys=>exact ⟨λu8=>true,λj x y h=>fe h,(cq h).symm.trans (by simp)⟩
 |cons x xs ih=>
  intro ys b h
  cases ys with
  |nil=>exact ⟨λu8=>true,λj x y u8 h=>fe h,(cq h).symm.trans (by simp)⟩
  |cons y ys=>
   refine ym h λa b' h1 h2 hb=> ?_
   refine aZ (ih h2) λe he LS=> ?_
   refine ⟨λj=>match j with|0=>a|j+1=>e j,λj=> ?_, ?_⟩
   ·cases j with
    |zero=>exact λp q hp hq=>cq hp▸cq hq▸h1
    |succ j=>exact he j
   ·rw [hb,LS,dq,dq,Nat.succ_min_succ,List.range_succ_eq_map,List.all_cons,List.all_map,show (xs.length+1==ys.length+1)=(xs.length==ys.length) from by rw [Bool.eq_iff_iff];simp,Bool.and_assoc]
    rfl
theorem y5 (hf:∀x y r b,av ac ah x r->av ac ah y r->f x y=some b->b=true):
  ∀{xs ys:List SV} {b:Bool},aH ac ah xs rs->aH ac ah ys rs->uD f xs ys=some b->b=true:=by
 induction rs with
 |nil=>
  intro xs ys b h1 h2 h
  cases h1
  cases h2
  exact (cq h).symm
 |cons r rs ih=>
  intro xs ys b h1 h2 h
  cases h1 with|cons h1 t1=>
  cases h2 with|cons h2 t2=>
  refine ym h λa b' e1 e2 hb=> ?_
  rw [hb,hf _ _ _ _ h1 h2 e1,ih t1 t2 e2];rfl
theorem uW {n:Nat}{C:SV->SV->Option Bool->Prop}(bad:∀{a b},C a b none)(nn:C .none .none (some true))(nb:∀x,C .none (.bytes x) (some false))(bn:∀x,C (.bytes x) .none (some false))(nt:∀x,C .none (.tuple x) (some false))(tn:∀x,C (.tuple x) .none (some false))
  (oo:∀a b,C (.bool a) (.bool b) (some (a==b))) (ii:∀a b,C (.int a) (.int b) (some (a==b))) (bb:∀a b,C (.bytes a) (.bytes b) (some (a==b))) (tt:∀a b,C (.tuple a) (.tuple b) (uD (ud n) a b)) (a b:SV):C a b (ud (n+1) a b):=by
 cases a with
 |none=>cases b with
  |none=>exact nn
  |bytes x=>exact nb x
  |tuple x=>exact nt x
  |_=>exact bad
 |bool a=>cases b with
  |bool b=>exact oo a b
  |_=>exact bad
 |int a=>cases b with
  |int b=>exact ii a b
  |_=>exact bad
 |bytes a=>cases b with
  |none=>exact bn a
  |bytes b=>exact bb a b
  |_=>exact bad
 |tuple a=>cases b with
  |none=>exact tn a
  |tuple b=>exact tt a b
  |_=>exact bad
 |_=>exact bad
theorem BB {ac:ao}(nd:(ac.map (·.1)).Nodup)(h1:(a,jH i)∈ac)(h2:(a,jH j)∈ac):i=j:=by
 have e:=congrArg Obj.data (fb nd h1 h2)
 injection e with e
 exact congrArg Array.toList e
theorem FP {ac:ao}(nd:(ac.map (·.1)).Nodup)(n:Nat):∀x y r b,av ac ah x r->av ac ah y r->ud n x y=some b->b=true:=by
 induction n with
 |zero=>exact λu8 u8 u8 u8 u8 u8 h=>fe h
 |succ n ih=>
  intro x y
  refine uW (C:=λx y o=>∀r b,av ac ah x r->av ac ah y r->o=some b->b=true) (λu8 u8 u8 u8 h=>fe h) (λu8 u8 u8 u8 h=>(cq h).symm) (λx r b h1 h2 u8=> ?_) (λx r b h2 h1 u8=> ?_) (λx r b h1 h2 u8=> ?_) (λx r b h2 h1 u8=> ?_)
   (λx y r b h1 h2 h=> ?_) (λx y r b h1 h2 h=> ?_) (λx y r b h1 h2 h=> ?_) (λx y r b h1 h2 h=> ?_) x y
  ·refine uy (bh h2) λu8 u8 q u8=> ?_
   exact nomatch (dW h1).symm.trans q
  ·refine uy (bh h2) λu8 u8 q u8=> ?_
   exact nomatch (dW h1).symm.trans q
  ·refine uy (cS h2) λu8 u8 q u8=> ?_
   exact nomatch (dW h1).symm.trans q
  ·refine uy (cS h2) λu8 u8 q u8=> ?_
   exact nomatch (dW h1).symm.trans q
  ·have:=(kC h1).symm.trans (kC h2)
   rw [<-cq h]
   injection this with q
   rw [q];exact iu _
  ·obtain ⟨_,q⟩:=aR h1
   obtain ⟨_,q2⟩:=aR h2
   have:=q.symm.trans q2
   rw [<-cq h]
   injection this with q
   rw [q];exact iu _
  ·refine j8 (bh h1) λu8 u8 q q1 u8=> ?_
   refine j8 (bh h2) λu8 u8 q2 q3 u8=> ?_
   have:=q.symm.trans q2
   rw [<-cq h,q1,q3]
   injection this with q
   rw [q];exact iu _
  ·refine x7 (cS h1) λu8 u8 q hm hv u8=> ?_
   refine x7 (cS h2) λu8 u8 q2 iY sN u8=> ?_
   have:=q.symm.trans q2
   injection this with q
   subst q
   rw [BB nd hm iY] at hv
   exact y5 ih hv sN h
theorem EL {f:SV->SV->Option Bool}{ac:ao}{ah:dN}{xs ys:List SV}{rs ts:List Value}{e:Nat->Bool}{A:Around}(hx:aH ac ah xs rs)(hy:aH ac ah ys ts)
  (he:∀j x y,xs[j]? =some x->ys[j]? =some y->f x y=some (e j)) (hf:∀x y r t b,av ac ah x r->av ac ah y t->f x y=some b->EqAt A s r t b):
  ∀j (h1:j<rs.toArray.size) (h2:j<ts.toArray.size),EqAt A s rs.toArray[j] ts.toArray[j] (e j):=λj h1 h2=>by
 have gp:j<xs.length:=by rw [hx.length];exact h1
 have kf:j<ys.length:=by rw [hy.length];exact h2
 refine aZ (hx.at (eV gp)) λr a1 a2=> ?_
 refine aZ (hy.at (eV kf)) λt b1 b2=> ?_
 have z1:rs.toArray[j]=r:=by
  have:=eV (l:=rs) (i:=j) h1
  rw [a1] at this
  simpa using (cq this).symm
 have z2:ts.toArray[j]=t:=by
  have:=eV (l:=ts) (i:=j) h2
  rw [b1] at this
  simpa using (cq this).symm
 rw [z1,z2]
 exact hf _ _ _ _ _ a2 b2 (he j _ _ (eV gp) (eV kf))
end
section
variable {c:Cx}{d:Nat}{m:Str->Option Value}{ac:ao}{ah:dN}{H:HP}{s:Shared}{E:Value->Shared->Prop}
structure Nk (A:Around)(s:Shared)(r t:Value)(b:Bool):Prop where
 e:EqAt A s r t b
 q:RcAt A s r t b
 n:RcNeAt A s r t (!b)
theorem C1 (h:(x.toList==y.toList)=b):Nk A s (.bytes x t) (.bytes y u) b:=by
 subst h
 refine ⟨λprog w E Q hq=>PySem.W.eqBool_bytes ?_,λprog w E Q hq=>PySem.W.eq_bytes hq,λprog w E Q hq=>PySem.W.ne_bytes hq⟩
 rw [show (x.toList==y.toList)=decide (x.toList=y.toList) by rw [Bool.eq_iff_iff];simp] at hq
 exact hq
theorem Jv (hn:aV c m ac ah H s){n:Nat}{A:Around}(hu:A.units<cLine){x y:List SV}{ix iy:List Value}{a b:Addr}{v:Bool}(hm:(a,jH ix)∈ac)(hv:aH ac ah x ix)(hl:x.length<=big)(iY:(b,jH iy)∈ac)(sN:aH ac ah y iy)(sM:y.length<=big)
  (he:∀x y r t b,av ac ah x r->av ac ah y t->ud n x y=some b->EqAt A.in1 s r t b) (h:uD (ud n) x y=some v):Nk A s (.ref a) (.ref b) v:=by
 refine hn.gE λg u8 u8 N=> ?_
 refine aZ (Bt h) λe h1 hb=> ?_
 have z:=EL hv sN h1 he
 have t1:=RcAt.tuples (e:=e) (j0 N hm) (j0 N iY) hu z
 have t2:=RcNeAt.tuples (e:=e) (j0 N hm) (j0 N iY) hu z
 rw [List.size_toArray,List.size_toArray,<-hv.length,<-sN.length,<-hb] at t1 t2
 refine ⟨?_,t1,t2⟩
 by_cases q:a=b
 ·subst q
  rw [BB hn.nd hm iY] at hv
  rw [y5 (FP hn.nd n) hv sN h];exact EqAt.same _
 ·exact EqAt.of_refs q t1
theorem Kz (hn:aV c m ac ah H s)(n:Nat):∀(A:Around),A.units+n<9900->∀x y r t b,av ac ah x r->av ac ah y t->ud n x y=some b->Nk A s r t b:=by
 induction n with
 |zero=>exact λu8 u8 u8 u8 u8 u8 u8 u8 u8 h=>fe h
 |succ n ih=>
  intro A hu x y
  have DF:A.units<cLine:=by show _<9900;lia
  refine hn.gE λg u8 u8 N=> ?_
  have T:∀{r t:Value} {a b:Bool},some a=some b->Nk A s r t a->Nk A s r t b:=λe h=>cq e▸h
  refine uW (C:=λx y o=>∀r t b,av ac ah x r->av ac ah y t->o=some b->Nk A s r t b) (λu8 u8 u8 u8 u8 h=>fe h) (λr t b h1 h2 h=> ?_) (λx r t b h1 h2 h=> ?_) (λx r t b h1 h2 h=> ?_) (λx r t b h1 h2 h=> ?_) (λx r t b h1 h2 h=> ?_)
   (λx y r t b h1 h2 h=> ?_) (λx y r t b h1 h2 h=> ?_) (λx y r t b h1 h2 h=> ?_) (λx y r t b h1 h2 h=> ?_) x y
  ·rw [dW h1,dW h2]
   exact T h ⟨EqAt.same _,RcAt.none_none,RcNeAt.none_none⟩
  ·refine uy (bh h2) λu8 u8 dc u8=> ?_;subst dc
   rw [dW h1]
   exact T h ⟨EqAt.gZ _ _,RcAt.gZ _ _,RcNeAt.gZ _ _⟩
  ·refine uy (bh h1) λu8 u8 dc u8=> ?_;subst dc
   rw [dW h2]
   exact T h ⟨EqAt.gX _ _,RcAt.gX _ _,RcNeAt.gX _ _⟩
  ·refine j8 (cS h2) λu8 u8 dc hm u8=> ?_;subst dc
   rw [dW h1]
   exact T h ⟨EqAt.none_tuple (j0 N hm) DF,RcAt.none_tuple (j0 N hm) DF,RcNeAt.none_tuple (j0 N hm) DF⟩
  ·refine j8 (cS h1) λu8 u8 dc hm u8=> ?_;subst dc
   rw [dW h2]
   exact T h ⟨EqAt.tuple_none (j0 N hm) DF,RcAt.tuple_none (j0 N hm) DF,RcNeAt.tuple_none (j0 N hm) DF⟩
  ·rw [kC h1,kC h2]
   exact T h ⟨EqAt.bool_bool _ _,RcAt.bool_bool _ _,RcNeAt.bool_bool _ _⟩
  ·obtain ⟨_,rfl⟩:=aR h1
   obtain ⟨_,rfl⟩:=aR h2
   exact T h ⟨EqAt.int_int _ _ _ _,RcAt.int_int _ _ _ _,RcNeAt.int_int _ _ _ _⟩
  ·refine j8 (bh h1) λu8 u8 dc q1 u8=> ?_;subst dc
   refine j8 (bh h2) λu8 u8 dc q2 u8=> ?_;subst dc
   exact T h (C1 (MU q1.symm q2.symm))
  ·refine x7 (cS h1) λu8 u8 dc a1 a2 a3=> ?_;subst dc
   refine x7 (cS h2) λu8 u8 dc b1 b2 b3=> ?_;subst dc
   exact Jv hn DF a1 a2 a3 b1 b2 b3 (λx y r t b h1 h2 h3=>(ih A.in1 (by show A.units+1+n<_;lia) x y r t b h1 h2 h3).e) h
theorem SN (hn:aV c m ac ah H s)(n:Nat)(A:Around)(hu:A.units+n<9900)(x y:SV)(r t:Value)(b:Bool)(hx:av ac ah x r)(hy:av ac ah y t)(h:ud n x y=some b):EqAt A s r t b:=(Kz hn n A hu x y r t b hx hy h).e
theorem T3 (hn:aV c m ac ah H s){n:Nat}(hu:A.units+n<9900)(hx:av ac ah x r)(hy:av ac ah y t)(h:ud n x y=some b):RcAt A s r t b/\RcNeAt A s r t (!b):=
 have z:=Kz hn n A hu x y r t b hx hy h
 ⟨z.q,z.n⟩
end
theorem sC:∀(a b:List UInt8),Builtin.Bytes.holds "__lt__" (Builtin.Bytes.order a b)=hV (a.map λc=>(c.toNat:Int)) (b.map λc=>(c.toNat:Int))
 | [], []=>rfl
 | [],_::_=>rfl
 |_::_, []=>rfl
 |x::a,y::b=>by
  have ih:=sC a b
  show Builtin.Bytes.holds "__lt__" (Builtin.Bytes.order (x::a) (y::b))=if ((x.toNat:Int)<(y.toNat:Int)) then true else if (x.toNat:Int)=(y.toNat:Int) then hV (a.map _) (b.map _) else false
  simp only [Builtin.Bytes.order]
  by_cases h1:x<y
  ·have:(x.toNat:Int)<y.toNat:=by have:=UInt8.lt_iff_toNat_lt.mp h1;exact Int.ofNat_lt.mpr ‹_›
   rw [if_pos h1,if_pos this];rfl
  ·have n1:¬(x.toNat:Int)<y.toNat:=λh=>h1 (UInt8.lt_iff_toNat_lt.mpr (by lia))
   rw [if_neg h1,if_neg n1]
   by_cases h2:x>y
   ·have:¬(x.toNat:Int)=y.toNat:=by have:=UInt8.lt_iff_toNat_lt.mp h2;lia
    rw [if_pos h2,if_neg this];rfl
   ·have:x.toNat=y.toNat:=by
     have a1:¬x.toNat<y.toNat:=λh=>h1 (UInt8.lt_iff_toNat_lt.mpr h)
     have a2:¬y.toNat<x.toNat:=λh=>h2 (UInt8.lt_iff_toNat_lt.mpr h)
     lia
    rw [if_neg h2,if_pos (by lia),ih]
theorem G0 (o:Ordering):Builtin.Bytes.holds "__ge__" o= !Builtin.Bytes.holds "__lt__" o:=by cases o<;>rfl
theorem mh (b c:Array UInt8)(t u:Tok):Gives (Builtin.«bytes.__lt__» ⟨[.bytes b t, .bytes c u], []⟩) (.val (.bool (hV (KBw.bInts b) (KBw.bInts c)))):=by
 refine .of_wp λM A E s Q hq=> ?_
 show wpAny M A (isInstance (.bytes c u) (.type "bytes")>>=λr=>_) _ E s
 refine ar (wpAny_isInstance (dT s c u) F.sub_bytes_bytes ?_)
 rw [KBw.ints_list,KBw.ints_list] at hq
 exact br ⟨_,rfl,by rw [<-sC] at hq;exact hq⟩
theorem th (b c:Array UInt8)(t u:Tok):Gives (Builtin.«bytes.__ge__» ⟨[.bytes b t, .bytes c u], []⟩) (.val (.bool (!hV (KBw.bInts b) (KBw.bInts c)))):=by
 refine .of_wp λM A E s Q hq=> ?_
 show wpAny M A (isInstance (.bytes c u) (.type "bytes")>>=λr=>_) _ E s
 refine ar (wpAny_isInstance (dT s c u) F.sub_bytes_bytes ?_)
 rw [KBw.ints_list,KBw.ints_list] at hq
 exact br ⟨_,rfl,by rw [<-sC,<-G0] at hq;exact hq⟩
theorem j4:Slot "bytes" (cmpInfo .Lt).2.1 "bytes.__lt__":=
 .of (owner:= "bytes") (n:= "__lt__") (by rw [gT,gU];kernel_rfl) (by decide+kernel) (by decide+kernel) (by decide+kernel)
  (by first|exact .inl (by decide+kernel)|exact .inr (by decide+kernel)) (by rw [isSubtype_type];kernel_rfl)
theorem lP:entryFor table "bytes.__lt__"=some Builtin.«bytes.__lt__»:=entryFor_of_tree (by kernel_rfl)
theorem nK (a b:Value):argsOk "bytes.__lt__" ⟨[a,b], []⟩:=by
 unfold argsOk;rw [signature?_of (id:= "bytes.__lt__") (n:= ['_', '_', 't', 'l', '_', '_']) (o:= ['s', 'e', 't', 'y', 'b']) (by kernel_rfl) FB.owner_bytes];kernel_rfl
theorem uv:Slot "bytes" (cmpInfo .GtE).2.1 "bytes.__ge__":=
 .of (owner:= "bytes") (n:= "__ge__") (by rw [gT,gU];kernel_rfl) (by decide+kernel) (by decide+kernel) (by decide+kernel)
  (by first|exact .inl (by decide+kernel)|exact .inr (by decide+kernel)) (by rw [isSubtype_type];kernel_rfl)
theorem tM:entryFor table "bytes.__ge__"=some Builtin.«bytes.__ge__»:=entryFor_of_tree (by kernel_rfl)
theorem uh (a b:Value):argsOk "bytes.__ge__" ⟨[a,b], []⟩:=by
 unfold argsOk;rw [signature?_of (id:= "bytes.__ge__") (n:= ['_', '_', 'e', 'g', '_', '_']) (o:= ['s', 'e', 't', 'y', 'b']) (by kernel_rfl) FB.owner_bytes];kernel_rfl
section
variable {prog:Program}{w:World}{A:Around}{E:Value->Shared->Prop}{s:Shared}{b c:Array UInt8}{t u:Tok}
theorem DX (h:Q (.bool (hV (KBw.bInts b) (KBw.bInts c))) s):wpAny (model prog w) A (compareOp .Lt (.bytes b t) (.bytes c u)) Q E s:=
 compareOp_gives (op:= .Lt) (dT s b t) (dT s c u) j4 lP (nK _ _) (mh b c t u) (λe=>nomatch e) h
theorem ES (h:Q (.bool (!hV (KBw.bInts b) (KBw.bInts c))) s):wpAny (model prog w) A (compareOp .GtE (.bytes b t) (.bytes c u)) Q E s:=
 compareOp_gives (op:= .GtE) (dT s b t) (dT s c u) uv tM (uh _ _) (th b c t u) (λe=>nomatch e) h
end
noncomputable def sr:Mq->CmpOp
 | .eq=> .Eq| .ne=> .NotEq| .lt=> .Lt| .le=> .LtE| .gt=> .Gt| .ge=> .GtE| .is=> .Is| .gm=> .IsNot| .isIn=> .In
section
variable {c:Cx}{d:Nat}{m:Str->Option Value}{ac:ao}{ah:dN}{H:HP}{s:Shared}{A:Around}{E:Value->Shared->Prop}
theorem Fi {C:Prop}(e:bU .eq a b H=some r)(h1:ud AX a b=some r->C)
  (h2:∀i j x y,a= .ref i->b= .ref j->H[i]? =some (.list x)->H[j]? =some (.list y)->(if x.length=y.length then uD (ud AX) x y else some false)=some r->C):C:=by
 cases a with
 |ref i=>
  cases b with
  |ref j=>
   change (match H[i]?,H[j]? with
    |some (.list x),some (.list y)=>if x.length=y.length then uD (ud AX) x y else some false
    |_,_=>none)=some r at e
   cases q1:H[i]? with
   |none=>rw [q1] at e;exact fe e
   |some o1=>
    rw [q1] at e
    cases o1 with
    |list x=>
     cases q2:H[j]? with
     |none=>rw [q2] at e;exact fe e
     |some o2=>
      rw [q2] at e
      cases o2 with
      |list y=>exact h2 i j x y rfl rfl q1 q2 e
      |_=>exact fe e
    |_=>exact fe e
  |_=>exact h1 e
 |_=>exact h1 e
set_option tactic.hygienic true in
theorem Hn (hn:aV c m ac ah H s)(hu:A.units<=9000){i j:Nat}{x y:List SV}{p q:Nat×Nat}{r:Bool}(hp:ah[i]? =some p)(hq:ah[j]? =some q)(hi:H[i]? =some (.list x))(hj:H[j]? =some (.list y))
  (e:(if x.length=y.length then uD (ud AX) x y else some false)=some r):RcAt A s (.ref p.1) (.ref q.1) r/\RcNeAt A s (.ref p.1) (.ref q.1) (!r):=by
 refine j8 (gk (hn.hr.obj i _ p hi hp)) λGH n1 hm hv hl=> ?_
 refine j8 (gk (hn.hr.obj j _ q hj hq)) λJ5 n2 iY sN sM=> ?_
 refine hn.gE λg u8 u8 N=> ?_
 have DF:A.units<cLine:=by show _<9900;exact lC ‹_› rfl
 have s1:GH.toArray.size=x.length:=by rw [List.size_toArray,<-hv.length]
 have s2:J5.toArray.size=y.length:=by rw [List.size_toArray,<-sN.length]
 split at e
 ·rename_i em
  refine aZ (Bt e) λe' he hb=> ?_
  have z:=EL (s:=s) (A:=A.in1) hv sN he λx y r t b h1 h2 h3=>SN hn AX A.in1 (by show A.units+1+6<_;lia) x y r t b h1 h2 h3
  have wV:GH.toArray.size=J5.toArray.size:=by rw [s1,s2,em]
  have:r=(List.range GH.toArray.size).all e' :=by
   rw [hb,s1,em,Nat.min_self,iu,Bool.and_true]
  rw [this]
  exact ⟨RcAt.lists (cj N hm) (cj N iY) wV DF z,RcNeAt.lists (cj N hm) (cj N iY) wV DF z⟩
 ·rename_i em
  have wV:(GH.toArray.size !=J5.toArray.size)=true:=by rw [s1,s2];exact bne_iff_ne.mpr em
  rw [<-cq e]
  exact ⟨RcAt.lists_lengths (cj N hm) (cj N iY) wV DF,RcNeAt.lists_lengths (cj N hm) (cj N iY) wV DF⟩
theorem Fd (hn:aV c m ac ah H s)(hu:A.units<=9000){a b:SV}{ra rb:Value}{r:Bool}(ha:av ac ah a ra)(hb:av ac ah b rb)(e:bU .eq a b H=some r):RcAt A s ra rb r/\RcNeAt A s ra rb (!r):=by
 refine Fi e (λe=>T3 hn (n:=AX) (by show _+6<_;lia) ha hb e) λi j x y ea eb hi hj e=> ?_
 refine aZ (cL ea ha) λp gP hp=> ?_;subst gP
 refine aZ (cL eb hb) λq gP hq=> ?_;subst gP
 exact Hn hn hu hp hq hi hj e
theorem Gl (e:bU .ne a b H=some r):bU .eq a b H=some (!r):=by
 have two:∀{o:Option Bool},o.map (!·)=some r->o=some (!r):=λ{o} h=>by
  cases o with
  |none=>exact fe h
  |some z=>rw [<-cq h,Bool.not_not]
 cases a with
 |ref i=>
  cases b with
  |ref j=>
   change (match H[i]?,H[j]? with
    |some (.list x),some (.list y)=>if x.length=y.length then (uD (ud AX) x y).map (!·) else some true
    |_,_=>none)=some r at e
   show (match H[i]?,H[j]? with
    |some (.list x),some (.list y)=>if x.length=y.length then uD (ud AX) x y else some false
    |_,_=>none)=some (!r)
   cases q1:H[i]? with
   |none=>rw [q1] at e;exact fe e
   |some o1=>
    rw [q1] at e
    cases o1 with
    |list x=>
     cases q2:H[j]? with
     |none=>rw [q2] at e;exact fe e
     |some o2=>
      rw [q2] at e
      cases o2 with
      |list y=>
       refine if q3:x.length=y.length then ?_ else ?_
       ·exact (if_pos q3).trans (two ((if_pos q3).symm.trans e))
       ·exact (if_neg q3).trans (congrArg (λb=>some (!b)) (cq ((if_neg q3).symm.trans e)))
      |_=>exact fe e
    |_=>exact fe e
  |_=>exact two e
 |_=>exact two e
theorem tK (ha:av ac ah a ra):(ra==Value.none)=pi a:=by cases ha<;>rfl
noncomputable def Ug:Mq->Int->Int->Bool
 | .lt,i,j=>decide (i<j)| .le,i,j=>decide (i<=j)| .gt,i,j=>decide (j<i)|_,i,j=>decide (j<=i)
noncomputable def Tv:Mq->By->By->Bool
 | .lt,x,y=>hV x y|_,x,y=> !hV x y
theorem Jg {op:Mq}(ho:op= .lt∨op= .le∨op= .gt∨op= .ge){a b:SV}{r:Bool}{C:SV->SV->Bool->Prop}(hi:∀i j,C (.int i) (.int j) (Ug op i j))(hb:(op= .lt∨op= .ge)->∀x y,C (.bytes x) (.bytes y) (Tv op x y))(e:bU op a b H=some r):C a b r:=by
 have T:∀{x:Bool} {a b:SV},C a b x->some x=some r->C a b r:=λh e=>cq e▸h
 rcases ho with rfl|rfl|rfl|rfl
 ·cases a with
  |int i=>cases b with
   |int j=>exact T (hi i j) e
   |_=>exact fe e
  |bytes i=>cases b with
   |bytes j=>exact T (hb (.inl rfl) i j) e
   |_=>exact fe e
  |_=>exact fe e
 ·cases a with
  |int i=>cases b with
   |int j=>exact T (hi i j) e
   |_=>exact fe e
  |_=>exact fe e
 ·cases a with
  |int i=>cases b with
   |int j=>exact T (hi i j) e
   |_=>exact fe e
  |_=>exact fe e
 ·cases a with
  |int i=>cases b with
   |int j=>exact T (hi i j) e
   |_=>exact fe e
  |bytes i=>cases b with
   |bytes j=>exact T (hb (.inr rfl) i j) e
   |_=>exact fe e
  |_=>exact fe e
theorem wC {op:Mq}(ho:op= .lt∨op= .le∨op= .gt∨op= .ge){a b:SV}{ra rb:Value}{r:Bool}{Q:Value->Shared->Prop}(ha:av ac ah a ra)(hb:av ac ah b rb)(e:bU op a b H=some r)
  (k:Q (.bool r) s):wpAny (model c.prog c.w) A (compareOp (sr op) ra rb) Q E s:=by
 refine Jg ho (C:=λa b r=>av ac ah a ra->av ac ah b rb->Q (.bool r) s->_) ?_ ?_ e ha hb k
 ·intro i j ha hb k
  obtain ⟨t,rfl⟩:=aR ha
  obtain ⟨u,rfl⟩:=aR hb
  rcases ho with rfl|rfl|rfl|rfl
  ·exact PyProof.Rows.lt_int k
  ·exact PySem.P.le_int k
  ·exact PyProof.Rows.gt_int k
  ·exact PySem.P.ge_int k
 ·intro hq x y ha hb k
  refine j8 (bh ha) λax t dc wI u8=> ?_;subst dc;subst wI
  refine j8 (bh hb) λay u dc wI u8=> ?_;subst dc;subst wI
  rcases hq with rfl|rfl
  ·exact DX k
  ·exact ES k
theorem L8 {C:Prop}(e:bU .isIn a b H=some r)(h:∀j o x,b= .ref j->H[j]? =some o->hZ a o=some x->r=x.isSome->C):C:=by
 cases b with
 |ref j=>
  change (match H[j]? with|some o=>(hZ a o).map (·.isSome)|none=>none)=some r at e
  cases q1:H[j]? with
  |none=>rw [q1] at e;exact fe e
  |some o=>
   rw [q1] at e
   change (hZ a o).map (·.isSome)=some r at e
   cases q:hZ a o with
   |none=>rw [q] at e;exact fe e
   |some x=>rw [q] at e;exact h j o x rfl q1 q (cq e).symm
 |_=>exact fe e
theorem P9 (hn:aV c m ac ah H s)(ha:av ac ah a ra)(hb:av ac ah b rb)(e:bU .isIn a b H=some r)
  (k:∀t,Q (.bool r) {s with toks:=t}):wpAny (model c.prog c.w) A (compareOp .In ra rb) Q E s:=by
 refine L8 e λj o x eb ho q er=> ?_
 subst er
 refine aZ (cL eb hb) λp gP hp=> ?_;subst gP
 obtain ⟨lo,Fp,LB,Gd⟩:=ua hn hp ho ha q
 refine wpAny_in_of LB lo Fp.mapOf ?_
 rcases Gd with ⟨rfl,z2⟩|⟨v,r,rfl,z2,_⟩
 ·rw [z2];exact k _
 ·rw [z2];exact k _
theorem Gu (ho:op= .is∨op= .gm)(e:bU op a b H=some r):b= .none/\r=(if op= .is then pi a else !pi a):=by
 rcases ho with rfl|rfl
 ·cases b with
  |none=>exact ⟨rfl,(cq e).symm⟩
  |_=>exact fe e
 ·cases b with
  |none=>exact ⟨rfl,(cq e).symm⟩
  |_=>exact fe e
theorem EJ (hn:aV c m ac ah H s)(hu:A.units<=9000)(ha:av ac ah a ra)(hb:av ac ah b rb)(e:bU op a b H=some r)
  (k:∀t,Q (.bool r) {s with toks:=t}):wpAny (model c.prog c.w) A (compareOp (sr op) ra rb) Q E s:=by
 have k0:Q (.bool r) s:=k s.toks
 cases op with
 |eq=>exact (Fd hn hu ha hb e).1 _ _ _ _ k0
 |ne=>exact (Bool.not_not r▸(Fd (A:=A) hn hu ha hb (Gl e)).2:RcNeAt A s ra rb r) _ _ _ _ k0
 |lt=>exact wC (.inl rfl) ha hb e k0
 |le=>exact wC (.inr (.inl rfl)) ha hb e k0
 |gt=>exact wC (.inr (.inr (.inl rfl))) ha hb e k0
 |ge=>exact wC (.inr (.inr (.inr rfl))) ha hb e k0
 |is=>
  obtain ⟨rfl,rfl⟩:=Gu (.inl rfl) e
  cases dW hb
  exact is_none_gen (by rw [tK ha];exact k0)
 |gm=>
  obtain ⟨rfl,rfl⟩:=Gu (.inr rfl) e
  cases dW hb
  exact isnot_none_gen (by rw [tK ha];exact k0)
 |isIn=>exact P9 hn ha hb e k
theorem zX {C:Prop}(e:eP a H=some r)(h1:a= .bool r->C)(h2:∀i vs,a= .ref i->H[i]? =some (.list vs)->r= !vs.isEmpty->C):C:=by
 cases a with
 |bool b=>exact h1 (congrArg SV.bool (cq e))
 |ref i=>
  change (match H[i]? with|some (.list vs)=>some (!vs.isEmpty)|_=>none)=some r at e
  cases q1:H[i]? with
  |none=>rw [q1] at e;exact fe e
  |some o=>
   rw [q1] at e
   cases o with
   |list vs=>exact h2 i vs rfl q1 (cq e).symm
   |_=>exact fe e
 |_=>exact fe e
theorem vq (hn:aV c m ac ah H s)(ha:av ac ah a ra)(e:eP a H=some r)
  (k:∀t,Q r {s with toks:=t}):wpAny (model c.prog c.w) A (truthy ra) Q E s:=by
 refine zX e (λea=> ?_) λi vs ea hO er=> ?_
 ·subst ea
  cases kC ha
  exact wpAny_truthy_bool (k s.toks)
 ·subst er
  refine aZ (cL ea ha) λp gP hp=> ?_;subst gP
  refine j8 (gk (hn.hr.obj i _ p hO hp)) λEE n hm hv hl=> ?_
  refine hn.gE λg u8 u8 N=> ?_
  have e:EE.toArray.isEmpty=vs.isEmpty:=by
   rw [List.isEmpty_toArray]
   cases hv<;>rfl
  refine wpAny_truthy_list (cj N hm) (by have:vs.length<=4096:=hl;rw [List.size_toArray,<-hv.length];lia) ?_
  rw [e];exact k _
end
inductive xM:SV->Option Int->Prop
 |none:xM .none none
 |int (i:Int):0<=i->xM (.int i) (some i)
theorem pu (h:0<=i):clipAt n i=min i.toNat n:=by
 have:i=(i.toNat:Int):=by lia
 rw [this,clipAt_nat,<-this]
theorem xt {α:Type}(l:List α)(k:Nat):l.take (min k l.length)=l.take k:=by rw [<-List.take_take,List.take_length]
theorem Ft {α:Type}(l:List α)(k:Nat):l.drop (min k l.length)=l.drop k:=by
 rcases Nat.le_total k l.length with h|h
 ·rw [Nat.min_eq_left h]
 ·rw [Nat.min_eq_right h,List.drop_length,List.drop_eq_nil_of_le h]
theorem EP {α:Type}{l c:List α}{lo hi:SV}{P:Prop}(e:lI l lo hi=some c)(h1:∀h,lo= .none->hi= .int h->0<=h->c=l.take h.toNat->P)(h2:∀a,lo= .int a->hi= .none->0<=a->c=l.drop a.toNat->P)
  (h3:∀a h,lo= .int a->hi= .int h->0<=a->0<=h->c=(l.take h.toNat).drop a.toNat->P):P:=by
 have I:∀{q:Prop} [Decidable q] {x:List α},(if q then some x else none)=some c->(q->c=x->P)->P:=λe k=>by
  split at e
  ·exact k ‹_› (cq e).symm
  ·exact fe e
 cases lo with
 |none=>cases hi with
  |int h=>exact I e λq e=>h1 h rfl rfl q e
  |_=>exact fe e
 |int a=>cases hi with
  |none=>exact I e λq e=>h2 a rfl rfl q e
  |int h=>exact I e λq e=>h3 a h rfl rfl q.1 q.2 e
  |_=>exact fe e
 |_=>exact fe e
theorem vC {α:Type}{l c:List α}{lo hi:SV}(e:lI l lo hi=some c):∃a b,xM lo a/\xM hi b/\
  (l.drop (a.elim 0 (clipAt l.length))).take (b.elim l.length (clipAt l.length) - a.elim 0 (clipAt l.length))=c:=by
 refine EP e (λh e1 e2 h0 e3=> ?_) (λa e1 e2 h0 e3=> ?_) λa h e1 e2 h0 h1 e3=> ?_
 ·subst e1 e2 e3
  refine ⟨_,_, .none, .int _ h0, ?_⟩
  show (l.drop 0).take (clipAt l.length h - 0)=_
  rw [pu h0,List.drop_zero,Nat.sub_zero,xt]
 ·subst e1 e2 e3
  refine ⟨_,_, .int _ h0, .none, ?_⟩
  show (l.drop (clipAt l.length a)).take (l.length - clipAt l.length a)=_
  rw [pu h0,<-List.drop_take,List.take_length,Ft]
 ·subst e1 e2 e3
  refine ⟨_,_, .int _ h0, .int _ h1, ?_⟩
  show (l.drop (clipAt l.length a)).take (clipAt l.length h - clipAt l.length a)=_
  rw [pu h0,pu h1,<-List.drop_take,xt]
  rcases Nat.le_total a.toNat l.length with q|q
  ·rw [Nat.min_eq_left q]
  ·rw [Nat.min_eq_right q,List.drop_eq_nil_of_le (List.length_take_le' _ _),List.drop_eq_nil_of_le (cy (List.length_take_le' _ _) q)]
theorem zQ {α:Type}{l c:List α}(e:(l.drop x).take y=c)(h:l.length<=n):c.length<=n:=by
 rw [<-e,List.length_take,List.length_drop]
 exact cy (cy (Nat.min_le_right _ _) (Nat.sub_le _ _)) h
theorem rZ (h:av ac ah v r)(c:xM v i):IsPart r i:=by
 cases c with
 |none=>cases h;exact .none
 |int i h0=>cases h;exact .int _ _
theorem Am {a b n:Nat}(h:a<=b)(hb:b<=n):Builtin.Slice.sliceAdjust (some (a:Int)) (some (b:Int)) 1 (n:Int)=((a:Int),(b:Int)):=by
 unfold Builtin.Slice.sliceAdjust
 have h1:¬((1:Int)<0):=by decide
 have h2:¬((a:Int)<0):=by lia
 have h3:¬((b:Int)<0):=by lia
 simp only [h1,h2,h3,if_false]
 congr 1
 ·lia
 ·lia
section
variable {prog:Program}{w:World}{A:Around}{E:Value->Shared->Prop}{s:Shared}
theorem qj {sl:Addr}{a b n:Nat}{u u' :Tok}{Q:Int×Int×Nat->Shared->Prop}(hs:s.heap.IsSliceOf sl (.int a u) (.int b u') .none)(ha:a<=b)(hb:b<=n)(h:Q ((a:Int),1,b - a) s):
  wpAny (model prog w) A (Builtin.Slice.sliceApplied (.ref sl) (pure (n:Int))) Q E s:=by
 refine mq (id hs) λos Ji Us NB=> ?_
 unfold Builtin.Slice.sliceApplied Builtin.Slice.sliceFields
 refine ar (ar (wpAny_field Ji NB (x:= .int a u) rfl (ar (wpAny_field Ji NB (x:= .int b u') rfl (ar (wpAny_field Ji NB (x:= .none) rfl (br ?_)))))))
 refine ar (slicePart_none ?_)
 show wpAny _ _ (if ((1:Int)==0)=true then _ else _) _ _ s
 rw [if_neg (by decide)]
 refine ar (slicePart_int (ar (slicePart_int (ar (br ?_)))))
 show wpAny _ _ (match Builtin.Slice.sliceAdjust (some (a:Int)) (some (b:Int)) 1 (n:Int) with|(lo,hi)=>pure (lo,(1:Int),Builtin.Slice.slicePlaces lo hi 1)) _ _ s
 rw [Am ha hb]
 show wpAny _ _ (pure ((a:Int),(1:Int),Builtin.Slice.slicePlaces (a:Int) (b:Int) 1)) _ _ s
 rw [places_from a b ha]
 exact br h
theorem Hg (xs:Array Value)(a k:Nat):((List.range k).filterMap λ(k:Nat)=>xs[((a:Int)+(k:Int)*1).toNat]?).toArray=((xs.toList.drop a).take k).toArray:=by
 have e:(λ(k:Nat)=>xs[((a:Int)+(k:Int)*1).toNat]?)=λk=>xs[a+k]? :=by
  funext k
  have:((a:Int)+(k:Int)*1).toNat=a+k:=by lia
  rw [this]
 rw [e]
 have:=pick_run xs a k
 rw [List.filterMap_map] at this
 have e2:((λx=>xs[x]?)∘λx=>a+x)=λk=>xs[a+k]? :=rfl
 rw [e2] at this
 rw [this]
theorem oW {t sl:Addr}{aC:Array Value}{a b:Nat}{u u' :Tok}{Q:Value->Shared->Prop}(ht:IsTup s.heap t aC)(hs:s.heap.IsSliceOf sl (.int a u) (.int b u') .none)(h1:1<=a)(ha:a<=b)(hb:b<=aC.size)
  (h:Q (.ref s.heap.objs.size) {s with heap:=s.heap.push {cls:= .type "tuple",data:= .seq ((aC.toList.drop a).take (b - a)).toArray}})
  (wV:aC.size<=sizeLine):wpAny (model prog w) A (getItem (.ref t) (.ref sl)) Q E s:=by
 have BH:sizeOk (.seq ((aC.toList.drop a).take (b - a)).toArray):=by
  show ((aC.toList.drop a).take (b - a)).toArray.size<=sizeLine
  rw [List.size_toArray,List.length_take,List.length_drop,Array.length_toList]
  lia
 refine mq (id hs) λos Ji Us NB=> ?_
 have VR:s.TypeIs (.ref sl) "slice":=⟨os,Ji,Us⟩
 unfold getItem
 try with_reducible refine wpAny_holding ?_
 first|refine ar (br ?_)|skip
 refine ar (wpAny_sequenceKey ht.typeIs (by decide) ?_)
 refine ar (wpAny_callSpecial?_slot (name:=Str.ofString "__getitem__") ht.typeIs slot_tuple_getitem
  (wpAny_call_entry slot_tuple_getitem ht.typeIs entry_tuple_getitem ?_ (args_tuple_getitem _ _)))
 show wpAny _ _ (Builtin.Tuple.tupleItemsOf (.ref t)>>=_) _ _ s
 refine ar (tupleItemsOf_ ht ?_)
 refine ar (wpAny_typeOf VR ?_)
 rw [if_pos (by decide)]
 refine ar (qj hs ha hb ?_)
 have J2:¬(((a:Int)==0&&(1:Int)==1&&(b - a)==aC.size)=true):=by
  have:((a:Int)==0)=false:=by rw [beq_eq_false_iff_ne];lia
  rw [this];simp
 show wpAny _ _ (if ((a:Int)==0&&(1:Int)==1&&(b - a)==aC.size)=true then _ else _) _ _ s
 rw [if_neg J2,Hg aC a]
 first
  |exact ar (m:=Builtin.Tuple.tupleExact _) (wpAny_newObj_type (br ⟨_,rfl,br h⟩) BH)
  |exact ar (m:=Builtin.Tuple.tupleExact _) (wpAny_newObj_type (ar (br (br ⟨_,rfl,br h⟩))) BH)
  |exact ar (ar (m:=Builtin.Tuple.tupleExact _) (wpAny_newObj_type (br (br ⟨_,rfl,br h⟩)) BH))
  |exact ar (ar (m:=Builtin.Tuple.tupleExact _) (wpAny_newObj_type (br ⟨_,rfl,br h⟩) BH))
end
section
variable {c:Cx}{d:Nat}{m:Str->Option Value}{ac:ao}{ah:dN}{H:HP}{s:Shared}{A:Around}{E:Value->Shared->Prop}
theorem kt (hn:aV c m ac ah H s){t:Nat}(T:KtsTurn c.fs c.g₀ g)(F:Fr g c.L h' m)(N:News g c.L h' ((D,jH rs)::ac))(lt:∀q∈ac,q.1<D)(hv:aH ac ah vs rs)(hl:vs.length<=big):
  aV c m ((D,jH rs)::ac) ah H {s with heap:=h',toks:=t}/\bq [] ac ah ((D,jH rs)::ac) ah/\av ((D,jH rs)::ac) ah (.tuple vs) (.ref D):=
 have X:bq [] ac ah ((D,jH rs)::ac) ah:=bq.cons _
 ⟨hn.more T F N lt,X, .tuple (.head _) (hv.ext X) hl⟩
theorem qs (lower upper:Option Expr)(p:Pos)(o i:Value):subscripted (.Slice lower upper none p) false o i=operate [i,o] (getItem o i):=by with_unfolding_all rfl
theorem slice_cases {C:SV->SV->SV->du SV->Prop}(bad:∀{o a b},C o a b .bad)(bb:∀b lo hi c,lI b lo hi=some c->C (.bytes b) lo hi (.ok (.bytes c) H))
  (tt:∀vs a h,1<=a/\a<=h/\h<=vs.length->C (.tuple vs) (.int a) (.int h) (.ok (.tuple ((vs.take h.toNat).drop a.toNat)) H)) (rr:∀r vs lo hi c,H[r]? =some (.list vs)->lI vs lo hi=some c->C (.ref r) lo hi (.ok (.ref H.length) (H++ [.list c]))) (o a b:SV):C o a b (f8 o a b H):=by
 cases o with
 |bytes x=>
  show C _ _ _ (match lI x a b with|some c=> .ok (.bytes c) H|none=> .bad)
  cases q:lI x a b with
  |none=>exact bad
  |some c=>exact bb _ _ _ _ q
 |tuple vs=>cases a with
  |int i=>cases b with
   |int j=>
    show C _ _ _ (if 1<=i/\i<=j/\j<=vs.length then .ok (.tuple ((vs.take j.toNat).drop i.toNat)) H else .bad)
    split
    ·exact tt _ _ _ ‹_›
    ·exact bad
   |_=>exact bad
  |_=>exact bad
 |ref r=>
  show C _ _ _ (match H[r]? with
   |some (.list vs)=>match lI vs a b with
    |some c=> .ok (.ref H.length) (H++ [.list c])
    |none=> .bad
   |_=> .bad)
  cases hO:H[r]? with
  |none=>exact bad
  |some o=>cases o with
   |list vs=>
    show C _ _ _ (match lI vs a b with|some c=> .ok (.ref H.length) (H++ [.list c])|none=> .bad)
    cases q:lI vs a b with
    |none=>exact bad
    |some c=>exact rr _ _ _ _ _ hO q
   |_=>exact bad
 |_=>exact bad
section
variable {value:Expr}{lower upper:Option Expr}{p:Pos}{Q:Value->Shared->Prop}
theorem yB (hn:aV c m ac ah H s)(h2:(KBw.bInts dp).length<=big)(ha:av ac ah a ra)(hb:av ac ah b rb)(hc:lI (KBw.bInts dp) a b=some cc)
  (k:∀az bM s' rx,aV c m az bM H s'->bq [] ac ah az bM->av az bM (.bytes cc) rx->Q rx s'):
  wpAny (model c.prog c.w) A (subscriptTail value (.Slice lower upper none p) (.bytes dp t) (.ref s.heap.objs.size)) Q E {s with heap:=s.heap.push {cls:= .type "slice",data:= .fields #[ra,rb, .none]}}:=by
 refine hn.gE λg T F N=> ?_
 refine j8 (vC hc) λlo hi c1 c2 D2=> ?_
 have kf:(KBw.bInts dp).length<=4096:=h2
 refine KBc.slice_K F N rfl (rZ ha c1) (rZ hb c2) (by exact lA ‹_› rfl) (λh' t' k' F' N' LS=> ?_) (qs _ _ _ _ _) (mw _ _ _)
 rw [D2] at LS
 exact k _ _ _ _ (⟨⟨g,T,F',N'⟩,hn.nd,hn.hr,hn.cells,hn.sh⟩) bq.refl (.bytes _ _ LS (zQ D2 h2))
theorem BV (hn:aV c m ac ah H s){vs:List SV}{aC:List Value}{ad:Addr}{i j:Int}{ti tj:Tok}(hm:(ad,jH aC)∈ac)(hv:aH ac ah vs aC)(hl:vs.length<=big)(hh:1<=i/\i<=j/\j<=vs.length)
  (k:∀az bM s' rx,aV c m az bM H s'->bq [] ac ah az bM->av az bM (.tuple ((vs.take j.toNat).drop i.toNat)) rx->Q rx s'):
  wpAny (model c.prog c.w) A (subscriptTail value (.Slice lower upper none p) (.ref ad) (.ref s.heap.objs.size)) Q E {s with heap:=s.heap.push {cls:= .type "slice",data:= .fields #[.int i ti, .int j tj, .none]}}:=by
 refine hn.gE λg T F N=> ?_
 have hle:=hv.length
 have sM:vs.length<=4096:=hl
 have ei:i=(i.toNat:Int):=by lia
 have ej:j=(j.toNat:Int):=by lia
 have b1:1<=i.toNat:=by lia
 have b2:i.toNat<=j.toNat:=by lia
 have b3:j.toNat<=aC.toArray.size:=by rw [List.size_toArray];lia
 have ht:IsTup (s.heap.push {cls:= .type "slice",data:= .fields #[.int i ti, .int j tj, .none]}) ad aC.toArray:=(sE N hm).keeps λu8 u8 e=>fI _ e
 have Rp:(s.heap.push {cls:= .type "slice",data:= .fields #[.int i ti, .int j tj, .none]}).IsSliceOf s.heap.objs.size (.int (i.toNat:Int) ti) (.int (j.toNat:Int) tj) .none:=by
  rw [<-ei,<-ej];exact Heap.IsSliceOf.new ..
 refine tail_any (s:={s with heap:=s.heap.push {cls:= .type "slice",data:= .fields #[.int i ti, .int j tj, .none]}}) ht.typeIs slot_tuple_getitem.lookup
  (oW ht Rp b1 b2 b3 ?_ (by rw [List.size_toArray,eW,<-hle];exact cy sM (by decide))) (qs _ _ _ _ _)
 have N1:=News.push (F.push {cls:= .type "slice",data:= .fields #[.int i ti, .int j tj, .none]}) (N.grown λu8 u8 e=>fI _ e) (jH ((aC.drop i.toNat).take (j.toNat - i.toNat)))
 have sN:aH ac ah ((vs.take j.toNat).drop i.toNat) ((aC.drop i.toNat).take (j.toNat - i.toNat)):=by
  rw [List.drop_take];exact (hv.drop _).take _
 obtain ⟨a1,a2,a3⟩:=kt (t:=s.toks) hn T ((F.push _).push _) N1 (λq hq=>by rw [Heap.size_push];exact Nat.lt_succ_of_lt (hn.lt q hq)) sN (zQ (List.drop_take ..).symm hl)
 exact k _ _ _ _ a1 a2 a3
theorem u3 (hn:aV c m ac ah H s){ad:Addr}(hL:s.heap.IsList ad aC.toArray)(hv:aH ac ah vs aC)(hl:vs.length<=big)(ha:av ac ah a ra)(hb:av ac ah b rb)(hc:lI vs a b=some cc)
  (k:∀az bM s' rx,aV c m az bM (H++ [.list cc]) s'->bq [] ac ah az bM->av az bM (.ref H.length) rx->Q rx s'):
  wpAny (model c.prog c.w) A (subscriptTail value (.Slice lower upper none p) (.ref ad) (.ref s.heap.objs.size)) Q E {s with heap:=s.heap.push {cls:= .type "slice",data:= .fields #[ra,rb, .none]}}:=by
 refine hn.gE λg T F N=> ?_
 refine j8 (vC hc) λlo hi c1 c2 D2=> ?_
 have sM:vs.length<=4096:=hl
 have hle:=hv.length
 refine tail_any (s:={s with heap:=s.heap.push {cls:= .type "slice",data:= .fields #[ra,rb, .none]}}) (Heap.IsList.typeIs (s:={s with heap:=s.heap.push {cls:= .type "slice",data:= .fields #[ra,rb, .none]}}) (hL.push _)) slot_list_getitem.lookup
  (wpAny_getItem_list_slice (hL.push _) (Heap.IsSliceOf.new ..) (rZ ha c1) (rZ hb c2) .none (by simp) ?_ (by rw [List.size_toArray,eW,<-hle];exact cy sM (by decide))) (qs _ _ _ _ _)
 rw [show slicePick aC.toArray lo hi none=((aC.drop (lo.elim 0 (clipAt vs.length))).take (hi.elim vs.length (clipAt vs.length) - lo.elim 0 (clipAt vs.length))).toArray by rw [slicePick_plain,List.size_toArray,<-hle]]
 have sN:=(hv.drop (lo.elim 0 (clipAt vs.length))).take (hi.elim vs.length (clipAt vs.length) - lo.elim 0 (clipAt vs.length))
 rw [D2] at sN
 have N1:=News.push (F.push {cls:= .type "slice",data:= .fields #[ra,rb, .none]}) (N.grown λu8 u8 e=>fI _ e) (listOf ((aC.drop (lo.elim 0 (clipAt vs.length))).take (hi.elim vs.length (clipAt vs.length) - lo.elim 0 (clipAt vs.length))).toArray 0)
 obtain ⟨a1,a2,a3⟩:=jv (t:=s.toks) hn T ((F.push _).push _) N1 (λq hq=>by rw [Heap.size_push];exact Nat.lt_succ_of_lt (hn.lt q hq)) sN (zQ D2 hl)
 exact k _ _ _ _ a1 a2 a3
end
theorem Ff (ok:c.Ok d)(hn:aV c m ac ah H s){value:Expr}{lower upper:Option Expr}{p:Pos}{o a b x:SV}{ro ra rb:Value}{H' :HP}{Q:Value->Shared->Prop}(ho:av ac ah o ro)(ha:av ac ah a ra)(hb:av ac ah b rb)(e:f8 o a b H= .ok x H')
  (k:∀az bM s' rx,aV c m az bM H' s'->bq [] ac ah az bM->av az bM x rx->Q rx s'):
  wpAny (model c.prog c.w) A (subscriptTail value (.Slice lower upper none p) ro (.ref s.heap.objs.size)) Q E {s with heap:=s.heap.push {cls:= .type "slice",data:= .fields #[ra,rb, .none]}}:=by
 refine slice_cases (C:=λo a b z=>z= .ok x H'->av ac ah o ro->av ac ah a ra->av ac ah b rb->wpAny (model c.prog c.w) A (subscriptTail value (.Slice lower upper none p) ro (.ref s.heap.objs.size)) Q E {s with heap:=s.heap.push {cls:= .type "slice",data:= .fields #[ra,rb, .none]}})
  (λe=>HO e) (λbb lo hi cc hc e ho ha hb=> ?_) (λvs i j hh e ho ha hb=> ?_) (λr vs lo hi cc hO hc e ho ha hb=> ?_) o a b e ho ha hb
 ·refine j8 (bh ho) λdp t dc wI h2=> ?_;subst dc;subst wI
  exact oH e λhx hH=>by subst hx hH;exact yB hn h2 ha hb hc k
 ·refine x7 (cS ho) λaC ad dc h1 h2 h3=> ?_;subst dc
  obtain ⟨ti,rfl⟩:=aR ha
  obtain ⟨tj,rfl⟩:=aR hb
  exact oH e λhx hH=>by subst hx hH;exact BV hn h1 h2 h3 hh k
 ·refine aZ (cL rfl ho) λp' gP hp=> ?_;subst gP
  refine j8 (gk (hn.hr.obj r _ p' hO hp)) λaC n h1 h2 h3=> ?_
  exact oH e λhx hH=>by subst hx hH;exact u3 hn (let ⟨_,_,_,N⟩:=hn.g;cj N h1) h2 h3 ha hb hc k
end
end Mine
namespace Mine
open PySem PySem.W PySem.Calls PyProof.Rows PySem.Spec
noncomputable def tU:Code->Bool
 | .builtin id _=> !(Builtin.Bytes.decodersThatHold.contains id)
 |_=>true
noncomputable def Good (Γ:PySem.Ctx):Prop:=tU Γ.code=true/\∀q∈Γ.below,tU q.1=true
noncomputable def aG {α:Type}(M:Model)(A:Around)(t:Sem α)(Q:α->Shared->Prop)(E:Value->Shared->Prop)(s:Shared):Prop:=
 ∀Γ p,Γ.In A->Good Γ->Sem.wp M Γ t (λa u8 s' =>Q a s') (λe u8 s' =>E e s') p s
noncomputable def fh (M:Model)(A:Around)(c:Code)(R:Result->Shared->Prop)(s:Shared):Prop:=
 ∀Γ p,Γ.code=c->Γ.Below A->Good Γ->wpCode M Γ R p s
section
variable {α β:Type}{M:Model}{A:Around}{E:Value->Shared->Prop}{s:Shared}
theorem ap {t:Sem α}{Q:α->Shared->Prop}(h:wpAny M A t Q E s):aG M A t Q E s:=λΓ p i u8=>h Γ p i
theorem QK {R:Result->Shared->Prop}(h:codeAny M A c R s):fh M A c R s:=λΓ p e b u8=>h Γ p e b
theorem aq {a:α}{Q:α->Shared->Prop}(h:Q a s):aG M A (pure a) Q E s:=λu8 u8 u8 u8=>h
theorem gA {t:Sem α}{Q Q' :α->Shared->Prop}(h:aG M A t Q E s)(hQ:∀a s,Q a s->Q' a s)(hE:∀e s,E e s->E' e s):aG M A t Q' E' s:=
 λΓ p i g=>Sem.wp_mono M Γ t (λa u8 s=>hQ a s) (λe u8 s=>hE e s) p s (h Γ p i g)
theorem aA {t:Sem α}{Q Q' :α->Shared->Prop}(h:aG M A t Q E s)(hQ:∀a s,Q a s->Q' a s):aG M A t Q' E s:=gA h hQ λu8 u8 x=>x
theorem ag {m:Sem α}{f:α->Sem β}{Q:β->Shared->Prop}(h:aG M A m (λa s' =>aG M A (f a) Q E s') E s):aG M A (m>>=f) Q E s:=λΓ p i g=>by
 rw [Sem.wp_bind']
 exact Sem.wp_mono M Γ m (λa p' s' h' =>h' Γ p' i g) (λu8 u8 u8 h' =>h') p s (h Γ p i g)
theorem gn {m:Sem α}{Q:α->Shared->Prop}(h:aG M A m Q (λe s' =>aG M A (k e) (λu8 nU=>E e nU) E s') s):aG M A (m.onRaise k) Q E s:=λΓ p i g=>by
 rw [Sem.wp_onRaise]
 exact Sem.wp_mono M Γ m (λu8 u8 u8 h' =>h') (λe p' s' h' =>h' Γ p' i g) p s (h Γ p i g)
theorem xH {m:Sem α}{Q:Except Value α->Shared->Prop}(h:aG M A m (λa=>Q (.ok a)) (λe=>Q (.error e)) s):aG M A m.attempt Q E s:=λΓ p i g=>by
 rw [Sem.wp_attempt];exact h Γ p i g
theorem I7 {m:Sem α}{k:Value->Sem α}{Q:α->Shared->Prop}(h:aG M A m Q (λe s' =>aG M A (k e) Q E s') s):aG M A (tryCatch m k) Q E s:=λΓ p i g=>by
 rw [Sem.wp_tryCatch']
 exact Sem.wp_mono M Γ m (λu8 u8 u8 h' =>h') (λe p' s' h' =>h' Γ p' i g) p s (h Γ p i g)
theorem aD {m:Sem α}{Q:α->Shared->Prop}(h:aG M A m Q E s):aG M A (holding vs m) Q E s:=λΓ p i g=>by
 rw [Sem.wp_holding];exact h Γ p i g
theorem aB (h:Q () s):aG M A (standAt pos) Q E s:=λu8 u8 u8 u8=>h
theorem uZ (h:Q () s):aG M A point Q E s:=λu8 u8 u8 u8=>h
theorem jP (h:Q () s):aG M A (release vs keep) Q E s:=λΓ p u8 u8=>by
 rw [Sem.wp_release];exact h
theorem iq (h:aG M A m Q E s):aG M A (operate vs m) Q E s:=λΓ p i g=>by
 rw [Sem.wp_operate];exact h Γ p i g
theorem ur (hg:A.guards=some gs)(hf:∀c p,c.isGuard=false->tU c=true->f (c,p)=false)(J2:∀c∈gs,∀p,f (c,p)=false)(h:Q false s):
  aG M A (do return (<-stack).any f) Q E s:=λΓ p i g=>by
 show Q (((Γ.code,p)::Γ.below).any f) s
 have:((Γ.code,p)::Γ.below).any f=false:=by
  rw [List.any_eq_false]
  intro x hx VF
  have W3:guardsOf ((Γ.code,p)::Γ.below)=gs:=by rw [guardsOf_cons];exact i.2.2.2.1 gs hg
  have hc:tU x.1=true:=by
   rcases cH hx with rfl|hx
   ·exact g.1
   ·exact g.2 x hx
  cases VL:x.1.isGuard with
  |false=>
   have:=hf x.1 x.2 VL hc
   rw [show ((x.1,x.2):Code×Pos)=x from rfl,VF] at this;exact Cg this
  |true=>
   have hm:x.1∈gs:=by
    rw [<-W3]
    unfold guardsOf
    exact List.mem_filter.mpr ⟨ip (f:=(·.1)) hx,VL⟩
   have:=J2 x.1 hm x.2
   rw [show ((x.1,x.2):Code×Pos)=x from rfl,VF] at this;exact Cg this
 rw [this];exact h
theorem Good.enter {Γ:PySem.Ctx}(g:Good Γ)(hc:tU c=true)(hd:Option Value)(p:Pos):Good (Γ.enter c hd p):=
 ⟨hc,λq hq=>by
  rcases cH hq with rfl|hq
  ·exact g.1
  ·exact g.2 q hq⟩
theorem Good.goto {Γ:PySem.Ctx}(g:Good Γ)(hc:tU c=true):Good (Γ.goto c):=⟨hc,g.2⟩
theorem I3 (tw:tU c=true)
  (hc:fh M (A.mark h) c (λr s' =>match r with| .ok f=>Q f s' | .error e=>E e s') s) (YD:h≠some byPass):aG M A (PySem.run c h) Q E s:=
 λΓ p i g=>by rw [Sem.wp_run];exact hc _ p rfl (i.enter c h p YD) (g.enter tw h p)
theorem vV (tw:tU c=true)
  (hc:fh M A c (λr s' =>match r with| .ok (.ret v)=>Q v s' | .ok _=>False| .error e=>E e s') s):aG M A (runValue c) Q E s:=λΓ p i g=>by
 rw [Sem.wp_runValue];exact hc _ p rfl (i.enter c none p (by intro x;exact nh x)) (g.enter tw none p)
theorem jn
  (hc:fh M A (.call f ⟨pos,kw⟩) (λr s' =>match r with| .ok (.ret v)=>Q v s' | .ok _=>False| .error e=>E e s') s):aG M A (call f pos kw) Q E s:=vV rfl hc
noncomputable def MT (M:Model)(A:Around)(R:Result->Shared->Prop):Fin->Shared->Prop:=λfin s' =>match fin with
 | .done f=>R (.ok f) s'
 | .again c' =>c'.quiet=true/\tU c' =true/\fh M A c' R s'
theorem d5 {R:Result->Shared->Prop}(h:aG M (A.under c) (M.den c) (MT M A R) (λe s' =>R (.error e) s') s):fh M A c R s:=λΓ p hc b g=>by
 rw [wpCode_iff_wp,hc]
 refine Sem.wp_mono M Γ _ (λfin p' s' h' => ?_) (λu8 u8 u8 h' =>h') p s (h Γ p (hc▸b.in) g)
 cases fin with
 |done f=>exact h'
 |again c' =>exact ⟨h'.1,h'.2.2 (Γ.goto c') p' rfl (b.goto c') (g.goto h'.2.1)⟩
theorem n6 {R R' :Result->Shared->Prop}(h:fh M A c R s)(hR:∀r s,R r s->R' r s):fh M A c R' s:=λΓ p hc b g=>wpCode_mono hR (h Γ p hc b g)
theorem QW {t:Sem α}{Q:α->Shared->Prop}(h:aG M A.in1 t Q E s):aG M A t Q E s:=
 λΓ p i g=>h Γ p ⟨i.1,i.2.1,i.2.2.1,i.2.2.2.1,Nat.le_succ_of_le i.2.2.2.2⟩ g
end
theorem tu:Manifest.owners.lookup (String.ofList ['y', 'a', 'r', 'r', 'a', 'e', 't', 'y', 'b'].reverse)=some Manifest.sig_bytearray:=by kernel_rfl
theorem me:Slot "bytearray" "append" "bytearray.append":=
 .of (owner:= "bytearray") (n:= "append") (by rw [gT,gU];kernel_rfl) (by decide+kernel) (by decide+kernel) (by decide+kernel)
  (by first|exact .inl (by decide+kernel)|exact .inr (by decide+kernel)) (by rw [isSubtype_type];kernel_rfl)
theorem sj:typeOf (.builtin "bytearray.append")=pure (.type "method_descriptor"):=by show builtinType _=_;rw [builtinType_eq_fast];kernel_rfl
theorem re:entryFor table "bytearray.append"=some Builtin.«bytearray.append»:=entryFor_of_tree (by kernel_rfl)
theorem tI (a b:Value):argsOk "bytearray.append" ⟨[a,b], []⟩:=by
 unfold argsOk;rw [signature?_of (id:= "bytearray.append") (n:= ['d', 'n', 'e', 'p', 'p', 'a']) (o:= ['y', 'a', 'r', 'r', 'a', 'e', 't', 'y', 'b']) (by kernel_rfl) tu];kernel_rfl
theorem lV:Slot "bytearray" "extend" "bytearray.extend":=
 .of (owner:= "bytearray") (n:= "extend") (by rw [gT,gU];kernel_rfl) (by decide+kernel) (by decide+kernel) (by decide+kernel)
  (by first|exact .inl (by decide+kernel)|exact .inr (by decide+kernel)) (by rw [isSubtype_type];kernel_rfl)
theorem sA:typeOf (.builtin "bytearray.extend")=pure (.type "method_descriptor"):=by show builtinType _=_;rw [builtinType_eq_fast];kernel_rfl
theorem rE:entryFor table "bytearray.extend"=some Builtin.«bytearray.extend»:=entryFor_of_tree (by kernel_rfl)
theorem sm (a b:Value):argsOk "bytearray.extend" ⟨[a,b], []⟩:=by
 unfold argsOk;rw [signature?_of (id:= "bytearray.extend") (n:= ['d', 'n', 'e', 't', 'x', 'e']) (o:= ['y', 'a', 'r', 'r', 'a', 'e', 't', 'y', 'b']) (by kernel_rfl) tu];kernel_rfl
theorem rj:typeLookup (.type "bytearray") "__getattribute__"=pure (some (.builtin "bytearray.__getattribute__")):=by rw [gT,gU];kernel_rfl
theorem G9:Manifest.canonical "bytearray.__getattribute__"= "object.__getattribute__":=by decide+kernel
theorem zH:typeLookup (.type "bytearray") "__getattr__"=pure none:=by rw [gT,gU];kernel_rfl
section
variable {prog:Program}{w:World}{A:Around}{E:Value->Shared->Prop}{s:Shared}{D:Addr}{dp:Array UInt8}
theorem eD (ho:s.heap.get? D=some (eL dp)):s.TypeIs (.ref D) "bytearray":=⟨_,ho,rfl⟩
theorem uP {id:String}{pl:Sem Bool}(ho:s.heap.get? D=some (eL dp))(hs:Slot "bytearray" name id)(ht:typeOf (.builtin id)=pure (.type "method_descriptor"))
  (h:Q (.builtin id, [.ref D]) s):wpAny (model prog w) A (getMethod (.ref D) name pl) Q E s:=by
 unfold getMethod
 refine ar (fm (eD ho) rj ?_)
 show wpAny _ A (if (Manifest.canonical "bytearray.__getattribute__" != "object.__getattribute__")=true then _ else _) Q E s
 rw [G9,if_neg (by decide)]
 refine ar (fm (eD ho) zH ?_)
 refine ar (fm (eD ho) hs.lookup ?_)
 refine ar (cY ht ?_)
 refine ar (wpAny_load ho ?_)
 exact ar (wpAny_rule (br h))
theorem jY {id:String}{R:Result->Shared->Prop}(hb:entryFor table id=some b)
  (h:aG (model prog w) (A.under (.builtin id args)) (b args) (MT (model prog w) A R) (λe s' =>R (.error e) s') s):fh (model prog w) A (.builtin id args) R s:=by
 refine d5 ?_
 show aG _ _ (match entryFor table id with|some b=>b args|none=>unsupported ((withoutEnding? id "#data").getD id)) _ _ _
 rw [hb]
 exact h
theorem qa {id:String}(h:Slot T name id)(hT:s.TypeIs self T)(hb:entryFor table id=some b)(tw:Builtin.Bytes.decodersThatHold.contains id=false)
  (ha:argsOk id ⟨self::aI, []⟩) (hc:aG (model prog w) A.in1 (b ⟨self::aI, []⟩) (λfin s' =>∃v,fin= .done (.ret v)/\Q v s') E s):aG (model prog w) A (call (.builtin id) (self::aI)) Q E s:=by
 refine jn (d5 ?_)
 show aG _ A.in1 (do checkBuiltinCall id ⟨self::aI, []⟩;again (.builtin id ⟨self::aI, []⟩)) _ _ s
 refine ag (ap (h.check _ _ _ _ _ _ _ _ hT ha (show aG _ _ _ _ _ _ from ?_)))
 refine aq ⟨plainId_quiet h.plain _,(by show (!Builtin.Bytes.decodersThatHold.contains id)=true;rw [tw];rfl),jY hb ?_⟩
 rw [Around.under_plainId h.plain]
 exact gA hc (λfin s' h' =>by obtain ⟨v,rfl,hv⟩:=h';exact hv) λu8 u8 x=>x
theorem tT (hg:A.guards=some [])(h:Q false s):aG (model prog w) A (Builtin.Bytes.exported self) Q E s:=by
 unfold Builtin.Bytes.exported
 refine ur hg (λc p h1 h2=> ?_) (λc hc=>j1 hc) h
 cases c with
 |builtin id a=>
  obtain ⟨l,kw⟩:=a
  have ne:∀x,guardIds.contains x=true->id≠x:=λx hx e=>by
   subst e
   exact absurd (show guardIds.contains id=false from h1) (by rw [hx];decide)
  have hd:Builtin.Bytes.decodersThatHold.contains id=false:=by
   have h2:(!Builtin.Bytes.decodersThatHold.contains id)=true:=h2
   rwa [Bool.not_eq_true'] at h2
  have n1:=ne "bytearray.__contains__" (by decide+kernel)
  have n2:=ne "bytearray.__mod__" (by decide+kernel)
  have n3:=ne "bytearray.__rmod__" (by decide+kernel)
  have n4:=ne "_struct.pack_into.held" (by decide+kernel)
  have n5:=ne "bytearray.find.held" (by decide+kernel)
  clear h1 h2 ne h hg
  delta Builtin.Bytes.exported.match_1
  refine (dif_neg n1).trans ((dif_neg n2).trans ((dif_neg n3).trans ((dif_neg n4).trans ((dif_neg n5).trans ?_))))
  cases l with
  |nil=>rfl
  |cons v l=>exact (congrArg _ hd).trans (Bool.and_false _)
 |_=>rfl
theorem nF (hg:A.guards=some [])(ho:s.heap.get? D=some (eL dp))(h:Q () s):aG (model prog w) A (Builtin.Bytes.checkResize (.ref D)) Q E s:=by
 unfold Builtin.Bytes.checkResize
 refine ag ?_
 unfold orM
 refine ag (tT hg ?_)
 show aG _ _ (do let n<-Builtin.Bytes.exportsOf (.ref D);pure (decide (n>0))) _ _ _
 refine ag ?_
 unfold Builtin.Bytes.exportsOf
 refine ag (ap (wpAny_load ho ?_))
 exact aq (aq (aq h))
theorem mR (ho:s.heap.get? D=some (eL dp))(hz:(f dp).size<=sizeLine)
  (h:∀h',Heap.SameBut D s.heap h'->h'.get? D=some (eL (f dp))->Q () {s with heap:=h' }):wpAny (model prog w) A (Builtin.Bytes.write (.ref D) f) Q E s:=by
 show wpAny _ _ (updateBytearray D f) _ _ _
 unfold updateBytearray
 refine ar (wpAny_load ho ?_)
 show wpAny _ _ (update D (Obj.mapBytearray f)>>=λu8=>lookBehind D) _ _ _
 refine ar (wpAny_update ho ?_)
 have hS:(s.heap.update D (Obj.mapBytearray f)).get? D=some (eL (f dp)):=Heap.get?_update_self (Obj.mapBytearray f) ho rfl
 refine wpAny_lookBehind hS ?_ (h _ (Heap.SameBut.update ..) hS)
 show (if (f dp).size>sizeLine then some "bytearray:memory" else none)=none
 rw [if_neg (by lia)]
theorem CJ (hg:A.guards=some [])(ho:s.heap.get? D=some (eL dp))(h0:0<=i)(h1:i<256)(hz:dp.size+1<=sizeLine)
  (h:∀h',Heap.SameBut D s.heap h'->h'.get? D=some (eL (dp.push i.toNat.toUInt8))->Q .none {s with heap:=h' }):aG (model prog w) A (call (.builtin "bytearray.append") [.ref D, .int i t]) Q E s:=by
 refine qa me (eD ho) re (by decide+kernel) (tI _ _) ?_
 show aG _ _ (Builtin.Bytes.byteValue (.int i t)>>=λc=>_) _ _ _
 refine ag ?_
 unfold Builtin.Bytes.byteValue
 refine ag (ap (cY (rfl:asIndex (.int i t)=pure i) (show aG _ _ _ _ _ _ from ?_)))
 have e:(decide (i<0)||decide (i≥256))=false:=by simp;lia
 rw [e]
 refine aq ?_
 refine ag (nF hg ho ?_)
 refine ag (ap (mR ho (by rw [Array.size_push];exact hz) λh' hs hS=> ?_))
 exact aq ⟨_,rfl,h h' hs hS⟩
theorem jj:typeLookup (.type "bytes") "__buffer__"=pure (some (.builtin "bytes.__buffer__")):=by rw [gT,gU];kernel_rfl
theorem Ax:typeLookup (.type "bytes") "__release_buffer__"=pure none:=by rw [gT,gU];kernel_rfl
theorem nS (h:Q true s):wpAny (model prog w) A (Builtin.Bytes.slotIsOwn (.bytes b t) "__buffer__") Q E s:=by
 unfold Builtin.Bytes.slotIsOwn
 refine ar (fm (dT _ _ _) jj ?_)
 show wpAny _ _ (if (!("bytes.__buffer__".endsWith ("."++ "__buffer__")))=true then _ else _) _ _ _
 rw [if_neg (by decide+kernel)]
 show wpAny _ _ (isInstance (.bytes b t) (.type ("bytes.__buffer__".dropRight ("__buffer__".length+1)))) _ _ _
 rw [show "bytes.__buffer__".dropRight ("__buffer__".length+1)= "bytes" by decide+kernel]
 exact wpAny_isInstance (dT _ _ _) F.sub_bytes_bytes h
theorem wE {id:String}(h:Q (some b) s):wpAny (model prog w) A (Builtin.Bytes.buffer? id (.bytes b t) full) Q E s:=by
 unfold Builtin.Bytes.buffer?
 refine ar (fm (dT _ _ _) jj ?_)
 refine ar (nS ?_)
 refine bm_if_false rfl ?_
 refine ar (fm (dT _ _ _) jj ?_)
 refine ar (ar ?_)
 unfold Builtin.Bytes.slotIsOwn
 refine ar (fm (dT _ _ _) Ax (br (br ?_)))
 refine bm_if_false rfl ?_
 exact ar (ar (br (br (br h))))
theorem CY (hg:A.guards=some [])(ho:s.heap.get? D=some (eL dp))(hz:(dp++b).size<=sizeLine)
  (h:∀h',Heap.SameBut D s.heap h'->h'.get? D=some (eL (dp++b))->Q .none {s with heap:=h' }):aG (model prog w) A (call (.builtin "bytearray.extend") [.ref D, .bytes b t]) Q E s:=by
 refine qa lV (eD ho) rE (by decide+kernel) (sm _ _) ?_
 show aG _ _ (specialOf (.bytes b t) "__buffer__">>=λr=>_) _ _ _
 refine ag (ap (fm (dT _ _ _) jj (show aG _ _ _ _ _ _ from ?_)))
 show aG _ _ (rule _>>=λu8=>Builtin.Bytes.payload (.ref D)>>=λu8=>_) _ _ _
 refine ag (ap (wpAny_rule (show aG _ _ _ _ _ _ from ?_)))
 refine ag (ap ?_)
 unfold Builtin.Bytes.payload Builtin.Bytes.payload?
 refine ar (ar (wpAny_load ho (br (br (show aG _ _ _ _ _ _ from ?_)))))
 refine ag (ap ?_)
 unfold Builtin.Bytes.takeBufferQuiet?
 refine ar (wpAny_attempt ?_)
 unfold Builtin.Bytes.takeBuffer?
 refine ar (fm (dT _ _ _) jj ?_)
 refine ar (nS ?_)
 refine bm_if_false rfl ?_
 refine ar (fm (dT _ _ _) jj ?_)
 refine ar (wE ?_)
 refine br (br (show aG _ _ _ _ _ _ from ?_))
 have fin:∀s' :Shared,s' =s->aG (model prog w) A.in1 (Builtin.Bytes.write (.ref D) (·++b)>>=λu8=>ret .none) (λfin s' =>∃v,fin= .done (.ret v)/\Q v s') E s' :=λs' e=>by
  subst e
  exact ag (ap (mR ho hz λh' hs hS=>aq ⟨_,rfl,h h' hs hS⟩))
 show aG _ _ (if (!b.isEmpty)=true then _ else _) _ _ _
 split
 ·exact ag (nF hg ho (fin _ rfl))
 ·exact fin _ rfl
end
theorem Ag:mroOf (.type "bytearray")=pure [.type "bytearray", .type "object"]:=by rw [mroOf_type];kernel_rfl
theorem ut:typeLookup (.type "bytearray") "__new__"=pure (some (.builtin "bytearray.__new__")):=by rw [gT,gU];kernel_rfl
theorem jf:Slot "bytearray" "__init__" "bytearray.__init__":=
 .of (owner:= "bytearray") (n:= "__init__") (by rw [gT,gU];kernel_rfl) (by decide+kernel) (by decide+kernel) (by decide+kernel)
  (by first|exact .inl (by decide+kernel)|exact .inr (by decide+kernel)) (by rw [isSubtype_type];kernel_rfl)
theorem uk:entryFor table "bytearray.__init__"=some Builtin.«bytearray.__init__»:=entryFor_of_tree (by kernel_rfl)
theorem wP (a:Value):argsOk "bytearray.__init__" ⟨[a], []⟩:=by
 unfold argsOk;rw [signature?_of (id:= "bytearray.__init__") (n:= ['_', '_', 't', 'i', 'n', 'i', '_', '_']) (o:= ['y', 'a', 'r', 'r', 'a', 'e', 't', 'y', 'b']) (by kernel_rfl) tu];kernel_rfl
theorem u9:TypeCalled "bytearray" "bytearray.__new__" "bytearray.__init__":=
 ⟨by decide+kernel,by decide+kernel,⟨_,_,Ag⟩,madeBy_type Ag ut (by decide+kernel),by decide+kernel,by rw [isSubtype_type];kernel_rfl,jf⟩
theorem yR:checkTypeCall "bytearray" ⟨[], []⟩=pure ():=by kernel_rfl
theorem zm:checkBuiltinCall "bytearray.__new__" ⟨[.type "bytearray"], []⟩=pure ():=by kernel_rfl
theorem vR:entryFor table "bytearray.__new__"=some Builtin.«list.__new__»:=by
 first|exact entryFor_alias (id' := "list.__new__") (by kernel_rfl) rfl (by decide+kernel) (by kernel_rfl)|exact entryFor_of_tree (by kernel_rfl)|exact entryFor_of_fast (by kernel_rfl)
theorem pj:plainId "bytearray.__new__"=true:=by decide+kernel
set_option maxHeartbeats 4000000 in
theorem wj:("bytearray.__new__".splitOn ".__new__").headD ""= "bytearray":=by simp+decide [String.splitOn,String.splitOnAux]
theorem jT:isSubtype (.type "bytearray") (.type "bytearray")=pure true:=by rw [isSubtype_type];kernel_rfl
theorem yi:typeLookup (.type "bytearray") "__release_buffer__"=pure (some (.builtin "bytearray.__release_buffer__")):=by rw [gT,gU];kernel_rfl
theorem HD:Builtin.Bytes.bindOptional "bytearray.__init__" "bytearray" ["source", "encoding", "errors"] [] []=pure [none,none,none]:=by kernel_rfl
section
variable {prog:Program}{w:World}{A:Around}{E:Value->Shared->Prop}{s:Shared}{D:Addr}{dp:Array UInt8}
theorem gV {α:Type}{a b:Sem α}{Q:α->Shared->Prop}(hc:c=false)(h:aG M A b Q E s):aG M A (if c=true then a else b) Q E s:=by
 subst hc;exact h
theorem P1 {α:Type}{a b:Sem α}{Q:α->Shared->Prop}(hc:c=true)(h:aG M A a Q E s):aG M A (if c=true then a else b) Q E s:=by
 subst hc;exact h
theorem yw (h:Q₁ (.ref s.heap.objs.size) {s with heap:=s.heap.push (eL #[])}):
  codeAny (model prog w) A (.call (.builtin "bytearray.__new__") ⟨[.type "bytearray"], []⟩) (wants Q₁ E) s:=by
 refine codeAny_of_tree ?_
 show wpAny _ A.in1 (do checkBuiltinCall "bytearray.__new__" ⟨[.type "bytearray"], []⟩;again (.builtin "bytearray.__new__" ⟨[.type "bytearray"], []⟩)) _ _ s
 refine ar (cY zm (br ⟨plainId_quiet pj _,codeAny_builtin_stack vR rfl λp st=> ?_⟩))
 rw [Around.under_plainId pj _]
 have Ua:=jT
 have TD:=wj
 obtain ⟨hp,g,d,tk,os⟩:=s
 simp only [TD]
 wp_walk
 exact h
theorem nu (ho:s.heap.get? D=some (eL dp))(h:Q false s):wpAny (model prog w) A (Builtin.Bytes.ownRelease (.ref D)) Q E s:=by
 unfold Builtin.Bytes.ownRelease Builtin.Bytes.slotIsOwn
 refine ar (ar (fm (eD ho) yi ?_))
 refine bm_if_false (by decide+kernel) ?_
 show wpAny _ _ (isInstance (.ref D) (.type ("bytearray.__release_buffer__".dropRight ("__release_buffer__".length+1)))) _ _ _
 rw [show "bytearray.__release_buffer__".dropRight ("__release_buffer__".length+1)= "bytearray" by decide+kernel]
 exact wpAny_isInstance (eD ho) jT (br h)
theorem JQ (hg:A.guards=some [])(ho:s.heap.get? D=some (eL #[]))(h:∀h',Heap.SameBut D s.heap h'->h'.get? D=some (eL #[])->Q .none {s with heap:=h' }):
  aG (model prog w) A (call (.builtin "bytearray.__init__") [.ref D]) Q E s:=by
 refine qa jf (eD ho) uk (by decide+kernel) (wP _) ?_
 unfold Builtin.«bytearray.__init__»
 show aG _ _ (Builtin.Bytes.ownRelease (.ref D)>>=λr=>_) _ _ _
 refine ag (ap (nu ho (show aG _ _ _ _ _ _ from ?_)))
 refine gV rfl ?_
 refine ag (ap (cY HD (show aG _ _ _ _ _ _ from ?_)))
 refine ag (aq ?_)
 refine ag (aq ?_)
 refine ag ?_
 unfold orM
 refine ag (tT hg ?_)
 show aG _ _ (do let n<-Builtin.Bytes.exportsOf (.ref D);pure (decide (n>0))) _ _ _
 refine ag ?_
 unfold Builtin.Bytes.exportsOf
 refine ag (ap (wpAny_load ho ?_))
 refine aq (aq (gV rfl ?_))
 refine ag (ap (mR ho (Nat.zero_le _) λh' hs hS=> ?_))
 exact ag (aq (aq ⟨_,rfl,h h' hs hS⟩))
theorem I5 (hg:A.guards=some [])(h:∀h',Heap.SameBut s.heap.objs.size (s.heap.push (eL #[])) h'->h'.get? s.heap.objs.size=some (eL #[])->Q (.ref s.heap.objs.size) {s with heap:=h' }):
  aG (model prog w) A (call (.type "bytearray") []) Q E s:=by
 refine jn (d5 ?_)
 show aG _ _ (callAny (.type "bytearray") ⟨[], []⟩) _ _ _
 refine aq ⟨Code.quiet_builtin _ (by decide+kernel),rfl,jY F.entry_type_call ?_⟩
 rw [Around.under_plain (weight_type_call_type "bytearray" [] []) rfl]
 show aG _ _ (Builtin.«type.__call__» ⟨[.type "bytearray"], []⟩) _ _ _
 unfold Builtin.«type.__call__»
 refine gV (by decide+kernel) ?_
 refine gV u9.canCreate ?_
 refine ag (ap (cY yR (show aG _ _ _ _ _ _ from ?_)))
 refine ag (ap (cY Ag (show aG _ _ _ _ _ _ from ?_)))
 refine gV rfl ?_
 refine ag (ap (cY u9.made (show aG _ _ _ _ _ _ from ?_)))
 refine ag (aq ?_)
 have hS:(s.heap.push (eL #[])).get? s.heap.objs.size=some (eL #[]):=Heap.get?_push_size _ rfl
 refine ag (aD (ap (wpAny_call (codeAny_mono (yw (E:=λu8 u8=>False) (Q₁:=λv s₁=>v= .ref s.heap.objs.size/\s₁={s with heap:=s.heap.push (eL #[])}) ⟨rfl,rfl⟩) λr s₁ hr=> ?_))))
 cases r with
 |error e=>exact hr.elim
 |ok f=>
  cases f with
  |ret v=>
   obtain ⟨rfl,rfl⟩:=hr
   show aG _ _ _ _ _ _
   refine ag (ap (wpAny_isInstance (eD (s:={s with heap:=s.heap.push (eL #[])}) hS) jT (show aG _ _ _ _ _ _ from ?_)))
   refine gV rfl ?_
   refine ag (aD ?_)
   unfold callSpecial?
   refine ag (ap (fm (eD (s:={s with heap:=s.heap.push (eL #[])}) hS) jf.lookup (show aG _ _ _ _ _ _ from ?_)))
   dsimp only
   rw [jf.bind]
   refine aD (ag (aq (ag (gA (JQ hg hS λh' hs tz=> ?_) (λu8 u8 x=>x) λu8 u8 x=>x))))
   refine aq ?_
   refine gV rfl ?_
   exact aq (h h' hs tz)
  |_=>exact hr.elim
end
theorem LC:isSubtype (.type "dict") (.type "dict")=pure true:=by rw [isSubtype_type];kernel_rfl
theorem D0:splitId "dict.__len__"=some ("dict", "__len__"):=by decide+kernel
section
variable {prog:Program}{w:World}{A:Around}{E:Value->Shared->Prop}{s:Shared}{d:Addr}
theorem Di (hT:s.TypeIs (.ref d) "dict")(h:Q false s):wpAny (model prog w) A (Builtin.List.listLengthHint (.ref d)) Q E s:=by
 unfold Builtin.List.listLengthHint
 refine ar (fm hT F.slot_dict_len.lookup ?_)
 dsimp only
 rw [D0]
 dsimp only
 refine ar (wpAny_isInstance hT LC ?_)
 refine bm_if_false rfl ?_
 refine bm_if_true (by decide+kernel) ?_
 refine ar (wpAny_typeOf hT ?_)
 exact br h
variable {K:Type}[DecidableEq K]{knd:PySem.KeyKind prog w K}
theorem vM {kvs:List (K×Value)}(hh:A.handled=none)(lo:(d==sysModules)=false)(hd:s.heap.DictAt knd d kvs ep)(hz:kvs.length<=4096)
  (h:∀h' tk d9,(∀b o,s.heap.get? b=some o->h'.get? b=some o)->ItemsOf (λi v=>∃k x,kvs[i]? =some (k,x)/\knd.is k v=true) d9 kvs.length->Q d9.toList {s with heap:=h',toks:=tk}):
  wpAny (model prog w) A (collect (.ref d)) Q E s:=by
 unfold collect
 refine ar (wpAny_runValue (codeAny_builtin entry_proto_collect' ?_))
 show wpAny _ _ (do again (.builtin "list.__iadd__" ⟨[<-newList [], .ref d], []⟩)) _ _ s
 refine ar (wpAny_newList (br ⟨Code.quiet_builtin _ (by decide+kernel),codeAny_builtin entry_list_iadd' ?_⟩))
 show wpAny _ _ (Builtin.List.listExtendWith (.ref s.heap.objs.size) (.ref d) (.ref s.heap.objs.size)) _ _ {s with heap:=s.heap.push (seqObj "list" #[] 0)}
 have hS:(s.heap.push (seqObj "list" #[] 0)).get? s.heap.objs.size=some (seqObj "list" #[] 0):=Heap.get?_push_size _ rfl
 have Rj:(s.heap.push (seqObj "list" #[] 0)).DictAt knd d kvs ep:=hd.at' λo e=>fI _ e
 have hT:({s with heap:=s.heap.push (seqObj "list" #[] 0)}:Shared).TypeIs (.ref d) "dict":=Rj.dictOf.typeIs
 obtain ⟨od,WZ⟩:∃o,s.heap.get? d=some o:=let ⟨o,es,ho,_⟩:=hd;⟨o,ho⟩
 have Nr:(d:Nat)<s.heap.objs.size:=Heap.lt_size WZ
 have Rt:s.heap.objs.size≠d:=Nat.ne_of_gt Nr
 generalize U7:s.heap.push (seqObj "list" #[] 0)=h1 at hS Rj hT⊢
 have Jq:h1.objs.size=s.heap.objs.size+1:=by rw [<-U7];exact Heap.size_push _ _
 have E5:∀b o,s.heap.get? b=some o->h1.get? b=some o:=λb o e=>by rw [<-U7];exact fI _ e
 unfold Builtin.List.listExtendWith
 refine ar (wpAny_typeOf hT ?_)
 refine bm_if_false (by
  have:Builtin.List.listSameRef (.ref s.heap.objs.size) (.ref d)=false:=by simp [Builtin.List.listSameRef,Rt]
  rw [this];decide) ?_
 refine ar (wpAny_pyIter_dict lo Rj ?_)
 have Td:=fI {cls:= .type "dict_keyiterator",data:= .fields #[.ref d, .int 0 0, .int kvs.length 0, .int ep 0]} hS
 have hd2:(h1.push {cls:= .type "dict_keyiterator",data:= .fields #[.ref d, .int 0 0, .int kvs.length 0, .int ep 0]}).DictAt knd d kvs ep:=Rj.at' λo e=>fI _ e
 refine ar (wpAny_holding (Di (s:={s with heap:=h1.push {cls:= .type "dict_keyiterator",data:= .fields #[.ref d, .int 0 0, .int kvs.length 0, .int ep 0]}}) hd2.dictOf.typeIs ?_))
 have hI:(h1.push {cls:= .type "dict_keyiterator",data:= .fields #[.ref d, .int 0 0, .int kvs.length 0, .int ep 0]}).IsKeyIter h1.objs.size d 0 kvs.length ep:=⟨_,Heap.get?_push_size _ rfl,rfl,rfl⟩
 refine bm_if_true (by decide+kernel) ?_
 refine ar (wpAny_rule ?_)
 have lG:d≠h1.objs.size:=by rw [Jq];exact cV (Nat.lt_succ_of_lt Nr)
 have W:=(Walks.dictKeys (prog:=prog) (w:=w) (A:=A.in1) (knd:=knd) hh h1.objs.size d lG kvs ep).toS
 have Yf:s.heap.objs.size∉ [h1.objs.size,d]:=λhm=>by
  rcases cH hm with e|hm
  ·rw [Jq] at e;exact absurd e (cV (Nat.lt_succ_self _))
  ·exact Rt (eF hm)
 generalize Xq:h1.push {cls:= .type "dict_keyiterator",data:= .fields #[.ref d, .int 0 0, .int kvs.length 0, .int ep 0]}=h2 at Td hd2 hI⊢
 have Jm:∀b o,h1.get? b=some o->h2.get? b=some o:=λb o e=>by rw [<-Xq];exact fI _ e
 refine ar ?_
 show wpAny _ _ (updateSeq s.heap.objs.size (·.push .none)>>=λu8=>updateSeq s.heap.objs.size (·.pop)) _ _ _
 refine ar (wpAny_updateSeq Td rfl ?_)
 have UW:=Heap.get?_update_self (Obj.mapSeq (·.push Value.none)) Td rfl
 refine wpAny_updateSeq (hz:=by seq_fits) UW rfl ?_
 have W1:=Heap.get?_update_self (Obj.mapSeq (·.pop)) UW rfl
 have Tw:∀b o,b≠s.heap.objs.size->h2.get? b=some o->((h2.update s.heap.objs.size (Obj.mapSeq (·.push Value.none))).update s.heap.objs.size (Obj.mapSeq (·.pop))).get? b=some o:=
  λb o hb e=>(Heap.get?_update_other _ _ (Ne.symm hb)).trans ((Heap.get?_update_other _ _ (Ne.symm hb)).trans e)
 have JI:=hI.at (h' :=(h2.update s.heap.objs.size (Obj.mapSeq (·.push Value.none))).update s.heap.objs.size (Obj.mapSeq (·.pop))) λo e=>Tw _ o (by rw [Jq];exact Nat.ne_of_gt (Nat.lt_succ_self _)) e
 have XX:=hd2.at' (h' :=(h2.update s.heap.objs.size (Obj.mapSeq (·.push Value.none))).update s.heap.objs.size (Obj.mapSeq (·.pop))) λo e=>Tw _ o (Ne.symm Rt) e
 refine br ⟨plainId_quiet F.plain_extend_loop _,codeAny_extend_loopS W (by rw [eW];exact lA ‹_› rfl) s.heap.objs.size Yf _ kvs.length 0 _ #[] _ rfl (Nat.zero_le _) ⟨JI,XX⟩ W1 (ItemsOf.nil _) λs' BQ c' hm MH kS=> ?_⟩
 show wpAny (model prog w) A (do
   let o<-load s.heap.objs.size
   match o.data with
   | .seq xs _=>pure xs.toList
   |_=>unsupported "internal:collect") Q E s'
 refine ar (wpAny_load MH (br ?_))
 rw [Moved.eq_with hm]
 refine h s'.heap s'.toks BQ (λb o e=>hm.heap b o (λt6=> ?_) (Tw b o (cV (Heap.lt_size e)) (Jm b o (E5 b o e)))) kS
 have lt:(b:Nat)<s.heap.objs.size:=Heap.lt_size e
 rcases cH t6 with e' |t6
 ·exact absurd e' (cV lt)
 ·have e' :=eF t6
  rw [Jq] at e'
  exact absurd e' (cV (Nat.lt_succ_of_lt lt))
end
theorem wQ:∀a b:List UInt8,hV (a.map λc=>(c.toNat:Int)) (b.map λc=>(c.toNat:Int))=decide (a.map UInt8.toNat<b.map UInt8.toNat)
 | [], []=>by simp [hV]
 | [],_::_=>by simp [hV]
 |_::_, []=>by simp [hV]
 |x::a,y::b=>by
  have ih:=wQ a b
  simp only [dZ,hV]
  by_cases h1:(x.toNat:Int)<y.toNat
  ·have:x.toNat<y.toNat:=by lia
   simp [h1,List.cons_lt_cons_iff,this]
  ·rw [if_neg h1]
   by_cases h2:(x.toNat:Int)=y.toNat
   ·have:x.toNat=y.toNat:=by lia
    rw [if_pos h2,ih]
    simp [List.cons_lt_cons_iff,this]
   ·have n1:¬x.toNat<y.toNat:=by lia
    have n2:¬x.toNat=y.toNat:=by lia
    rw [if_neg h2]
    simp [List.cons_lt_cons_iff,n1,n2]
noncomputable def l9:Value->List UInt8
 | .bytes b _=>b.toList
 |_=> []
@[reducible] def lc:PyProof.Rows.KeyKind where
 α:=List Nat
 blt a b:=decide (a<b)
 irrefl a:=by simpa using List.lt_irrefl a
 trans a b c h1 h2:=by simp only [decide_eq_true_eq] at*;exact List.lt_trans h1 h2
 negTrans a b c h:=by
  simp only [decide_eq_true_eq] at*
  by_cases KB:a<b
  ·exact .inl KB
  ·exact .inr (List.lt_of_le_of_lt (List.not_lt.mp KB) h)
 total a b h1 h2:=by simp only [decide_eq_false_iff_not] at*;exact List.le_antisymm (List.not_lt.mp h2) (List.not_lt.mp h1)
 keyOf v:=match v with| .bytes b _=>some (b.toList.map UInt8.toNat)|_=>none
 dflt:= []
section
variable {prog:Program}{w:World}{A:Around}{E:Value->Shared->Prop}{s:Shared}
theorem uB (h:Q (.bool (decide (a.toList.map UInt8.toNat<b.toList.map UInt8.toNat))) s):
  wpAny (model prog w) A (call (.builtin "bytes.__lt__") [.bytes a t, .bytes b u]) Q E s:=
 call_gives j4 (dT s a t) lP (nK _ _) (mh a b t u) (by rw [<-wQ] at h;rw [KBw.ints_list,KBw.ints_list];exact h)
theorem xO (h:Q (decide (a.toList.map UInt8.toNat<b.toList.map UInt8.toNat)) s):wpAny (model prog w) A (oneLt' true (.bytes a t) (.bytes b u)) Q E s:=by
 rw [oneLt'_eq]
 simp only [if_true]
 refine ar (wpAny_cRoomFor_byValue rfl ?_)
 refine ar (wpAny_callSpecialIfBound?_slot (dT s a t) j4 (uB ?_))
 exact wpAny_truthy_bool h
theorem um:lc.OneLt:=by
 intro prog w A E s x y a b Q ha hb h
 cases x<;>simp only [lc,reduceCtorEq,Option.some.injEq] at ha
 cases y<;>simp only [lc,reduceCtorEq,Option.some.injEq] at hb
 cases ha;cases hb
 exact xO h
end
noncomputable def j7 (vs:List Value):Prop:=∀v∈vs,∃b t,v= .bytes b t
theorem j7.keys (h:j7 vs):PyProof.Rows.KeysOf lc (pairsOf vs):=by
 intro p hp
 rw [pairsOf_toList] at hp
 refine Ad (h _ (mem_zip_self hp).2) λb t e=> ?_
 exact ⟨b.toList.map UInt8.toNat,by rw [e]⟩
theorem lQ:∀{vs:List Value},j7 vs->vs.mapM firstOfTuple' =pure (vs.map λu8=>none)
 | [],_=>by simp
 |v::vs,h=>by
  refine Ad (h v (.head _)) λb t dc=> ?_;subst dc
  rw [List.mapM_cons,show firstOfTuple' (.bytes b t)=pure none from rfl,lQ λv hv=>h v (.tail _ hv)];simp
theorem ls:∀{vs:List Value},j7 vs->vs.mapM typeOf=pure (vs.map λu8=>Value.type "bytes")
 | [],_=>by simp
 |v::vs,h=>by
  refine Ad (h v (.head _)) λb t dc=> ?_;subst dc
  rw [List.mapM_cons,ls λv hv=>h v (.tail _ hv)]
  show (pure (Value.type "bytes")>>=λb=>pure _>>=λbs=>pure (b::bs))=_
  simp
theorem xq (h:j7 (v₁::v₂::vs)):keyKind' (v₁::v₂::vs).toArray=pure oneType' :=by
 rw [keyKind'_eq,List.mapM_toArray,lQ h]
 simp only [map_pure,pure_bind]
 rw [if_neg (by simp),if_neg (by simp)]
 rw [oneTypeOnly'_eq,List.mapM_toArray,ls h]
 simp only [map_pure,pure_bind]
 have nV:((List.map (λu8=>Value.type "bytes") (v₁::v₂::vs)).toArray.all λx=>x==Value.type "bytes")=true:=by
  simp only [List.all_toArray,List.all_map,List.all_eq_true]
  intro _ _
  rfl
 have h0:(List.map (λu8=>Value.type "bytes") (v₁::v₂::vs)).toArray[0]? =some (Value.type "bytes"):=by simp
 rw [h0]
 simp only [nV,if_true,pure_bind,Option.isSome_some]
theorem IU (h:j7 vs){xs:Array Keyed}(hp:xs.Perm (pairsOf vs))(hs:SortedToK lc xs (pairsOf vs).size):
  j7 (xs.map (·.2)).toList/\((xs.map (·.2)).toList.map l9).Perm (vs.map l9)/\((xs.map (·.2)).toList.map l9).Pairwise λa b=>decide (b.map UInt8.toNat<a.map UInt8.toNat)=false:=by
 have hl:xs.toList.Perm (vs.zip vs):=by rw [<-pairsOf_toList];exact Array.perm_iff_toList_perm.mp hp
 have t6:∀p,p∈xs.toList->p.1=p.2/\p.1∈vs:=λp Ku=>mem_zip_self (hl.mem_iff.mp Ku)
 have e:(xs.map (·.2)).toList=xs.toList.map (·.1):=by
  rw [Array.toList_map];exact List.map_congr_left λp Ku=>(t6 p Ku).1.symm
 rw [e]
 refine ⟨λv hv=> ?_, ?_, ?_⟩
 ·refine aZ (gH hv) λp Ku dc=> ?_;subst dc
  exact h _ (t6 p Ku).2
 ·refine List.Perm.map _ ?_
  have:=hl.map Prod.fst
  rwa [List.map_fst_zip (bS _)] at this
 ·rw [List.map_map,List.pairwise_map,List.pairwise_iff_getElem]
  intro i j hi hj SQ
  have Nz:i<xs.size:=by simpa using hi
  have QZ:j<xs.size:=by simpa using hj
  have h1:=hs i j (Nat.le_of_lt SQ) (by rw [<-hp.size_eq];exact QZ)
  refine Ad (h _ (t6 xs[i] (by simp)).2) λx t ex=> ?_
  refine Ad (h _ (t6 xs[j] (by simp)).2) λy u ey=> ?_
  have k1:KK lc xs i=x.toList.map UInt8.toNat:=by unfold KK;rw [getElem?_pos xs i Nz,show xs[i]=(.bytes x t,xs[i].2) from Prod.ext ex rfl];rfl
  have k2:KK lc xs j=y.toList.map UInt8.toNat:=by unfold KK;rw [getElem?_pos xs j QZ,show xs[j]=(.bytes y u,xs[j].2) from Prod.ext ey rfl];rfl
  rw [k1,k2] at h1
  change decide (y.toList.map UInt8.toNat<x.toList.map UInt8.toNat)=false at h1
  simp only [Function.comp,Array.getElem_toList]
  have z1:l9 xs[i].1=x.toList:=by rw [ex];rfl
  have z2:l9 xs[j].1=y.toList:=by rw [ey];rfl
  simp only [z1,z2]
  exact h1
section
variable {prog:Program}{w:World}{A:Around}{E:Value->Shared->Prop}{s:Shared}{d:Addr}{K:Type}[DecidableEq K]{knd:PySem.KeyKind prog w K}
theorem yS {kvs:List (K×Value)}(hh:A.handled=none)(lo:(d==sysModules)=false)(hd:s.heap.DictAt knd d kvs ep)(hz:kvs.length<64)(hk:∀k v,knd.is k v=true->∃b t,v= .bytes b t)
  (h:∀(h₁ h' :Heap) (tk:Nat) (vs:List Value) (out:Array Value) (e:Nat),(∀b o,s.heap.get? b=some o->h₁.get? b=some o)->(∀b o,h₁.get? b=some o->h'.get? b=some o)->h'.get? h₁.objs.size=some (seqObj "list" out e)->ItemsOf (λi v=>∃k x,kvs[i]? =some (k,x)/\knd.is k v=true) (List.toArray vs) kvs.length->
   j7 out.toList->(out.toList.map l9).Perm (vs.map l9)->(out.toList.map l9).Pairwise (λa b=>decide (b.map UInt8.toNat<a.map UInt8.toNat)=false)->Q (.ref h₁.objs.size) {s with heap:=h',toks:=tk}):
  wpAny (model prog w) A (call (.builtin "sorted") [.ref d]) Q E s:=by
 refine Calls.call_function_entry kind_sorted plain_sorted entry_sorted (args_sorted1 _) ?_
 unfold Builtin.«sorted»
 refine ar (m:=checkCount "sorted" 1 1 _) (br ?_)
 refine ar (vM hh lo hd (by exact lD ‹_› rfl) λh' tk d9 hold kS=> ?_)
 have nV:j7 d9.toList:=λv hv=>by
  obtain ⟨j,hj,rfl⟩:=List.getElem_of_mem hv
  have QZ:j<d9.size:=by simpa using hj
  refine uy (kS.2 j d9[j] (getElem?_pos d9 j QZ)) λk x u8 WI=> ?_
  simpa using hk k _ WI
 have em:d9.toList.length<64:=by have:=kS.1;simp;lia
 refine ar (wpAny_newList ?_)
 have T1:(h'.push (seqObj "list" d9.toList.toArray 0)).get? h'.objs.size=some (seqObj "list" d9.toList.toArray 0):=Heap.get?_push_size _ rfl
 refine ar (wpAny_holding (wpAny_call_entry slot_list_sort ⟨_,T1,rfl⟩ entry_list_sort (list_sort_treeK um T1 nV.keys (λv₁ v₂ aI e=>xq (by rw [<-e];exact nV)) em λWV a1 a2=>⟨_,rfl, ?_⟩) (args_list_sort _)))
 refine br ⟨_,rfl, ?_⟩
 refine rB (IU nV a1 a2) λb1 b2 b3=> ?_
 obtain ⟨e,he⟩:=sortedHeap_at (out:=(arrOf WV).map (·.2)) T1
 refine h h' _ _ d9.toList _ e hold (λb o hb=> ?_) he (by rw [Array.toArray_toList];exact kS) b1 b2 b3
 have lt:(b:Nat)<h'.objs.size:=Heap.lt_size hb
 rw [sortedHeap_old (cV lt) (by rw [Heap.size_push];exact Nat.lt_succ_of_lt lt)]
 exact fI _ hb
end
theorem jK (h0:0<=a)(h1:a<=b)(h2:b<=4096):Builtin.Range.small a b 1=true:=by
 unfold Builtin.Range.small
 rw [rangeSize_nat]
 simp only [Builtin.Range.rangeFitsLong,Bool.and_eq_true,decide_eq_true_eq,Bool.or_eq_true]
 refine ⟨⟨⟨⟨⟨?_, ?_⟩, ?_, ?_⟩,by decide,by decide⟩, ?_, ?_⟩, .inr ?_⟩<;>first|lia|(rw [if_pos (by decide)];simp only [Bool.and_eq_true,decide_eq_true_eq];lia)
section
variable {prog:Program}{w:World}{A:Around}{E:Value->Shared->Prop}{s:Shared}{r:Addr}{a b:Int}{t u v:Tok}{n:Nat}
theorem uj (hh:A.handled=none)(hr:IsRange s.heap r a b 1 t u v)(hs:Builtin.Range.small a b 1=true)(hn:Builtin.Range.rangeSize a b 1=n)(hz:n<=4096)
  (h:∀(h' :Heap) (tk:Nat) (d9:Array Value),(∀b o,s.heap.get? b=some o->h'.get? b=some o)->ItemsOf (λi v=>∃t,v= .int (a+i*1) t) d9 n->Q d9.toList {s with heap:=h',toks:=tk}):wpAny (model prog w) A (collect (.ref r)) Q E s:=by
 have key:∀R:Result->Shared->Prop,(∀(h' :Heap) (tk:Nat) (BQ:Array Value) (c' :Nat),(∀b o,b≠s.heap.objs.size->(s.heap.push (seqObj "list" #[] 0)).get? b=some o->h'.get? b=some o)->h'.get? s.heap.objs.size=some {cls:= .type "list",dict:=none,data:= .seq BQ c',slots:= #[]}->
   ItemsOf (λi v=>∃t,v= .int (a+i*1) t) BQ n->R (.ok (.ret (.ref s.heap.objs.size))) {s with heap:=h',toks:=tk})->codeAny (model prog w) A (.builtin "proto.collect" ⟨[.ref r], []⟩) R s:=λR hR=>by
  refine codeAny_builtin entry_proto_collect' ?_
  show wpAny _ _ (do again (.builtin "list.__iadd__" ⟨[<-newList [], .ref r], []⟩)) _ _ s
  refine ar (wpAny_newList (br ⟨Code.quiet_builtin _ (by decide+kernel),codeAny_builtin entry_list_iadd' ?_⟩))
  rw [Around.under_plainId F.plain_list_iadd _]
  show wpAny _ _ (Builtin.List.listExtendWith (.ref s.heap.objs.size) (.ref r) (.ref s.heap.objs.size)) _ _ {s with heap:=s.heap.push (seqObj "list" #[] 0)}
  have hS:(s.heap.push (seqObj "list" #[] 0)).get? s.heap.objs.size=some {cls:= .type "list",data:= .seq #[] 0}:=Heap.get?_push_size _ rfl
  have GQ:IsRange (s.heap.push (seqObj "list" #[] 0)) r a b 1 t u v:=fI _ hr
  exact wpAny_extend_range (A:=A) (R:=R) (s:={s with heap:=s.heap.push (seqObj "list" #[] 0)}) hh GQ hs hn (by exact lA ‹_› rfl) s.heap.objs.size _ 0 hS hR
 unfold collect
 refine ar (wpAny_runValue (key _ λh' tk BQ c' hk MH kS=> ?_))
 show wpAny (model prog w) A (do
   let o<-load s.heap.objs.size
   match o.data with
   | .seq xs _=>pure xs.toList
   |_=>unsupported "internal:collect") Q E _
 refine ar (wpAny_load MH (br ?_))
 exact h h' tk BQ (λb o e=>hk b o (cV (Heap.lt_size e)) (fI _ e)) kS
theorem yT (hh:A.handled=none)(hr:IsRange s.heap r a b 1 t u v)(hs:Builtin.Range.small a b 1=true)(hn:Builtin.Range.rangeSize a b 1=n)(hz:n<=4096)
  (h:∀(h' :Heap) (tk:Nat) (d9:Array Value),(∀b o,s.heap.get? b=some o->h'.get? b=some o)->ItemsOf (λi v=>∃t,v= .int (a+i*1) t) d9 n->Q (.ref h'.objs.size) {s with heap:=h'.push {cls:= .type "tuple",data:= .seq d9},toks:=tk}):
  wpAny (model prog w) A (call (.type "tuple") [.ref r]) Q E s:=by
 refine callType_codes (Q₁:=λobj s₁=>s₁.TypeIs obj "tuple"/\Q obj s₁) F.called_tuple (F.typeCall_tuple_1 _) F.entry_object_init ?_ λobj s₁ h₁=>
  ⟨h₁.1,F.args_object_init_2 obj _,object_init_meets F.called_tuple.init.lookup F.called_tuple.made (by decide) prog w A.in1 _ s₁ ⟨h₁.1,rfl,h₁.2⟩⟩
 refine codeAny_of_tree ?_
 show wpAny _ A.in1.in1 (do checkBuiltinCall "tuple.__new__" ⟨[.type "tuple", .ref r], []⟩;again (.builtin "tuple.__new__" ⟨[.type "tuple", .ref r], []⟩)) _ _ s
 refine ar (cY (F.newCall_tuple_1 _) (br ⟨plainId_quiet F.plain_tuple_new _,codeAny_builtin F.entry_tuple_new ?_⟩))
 rw [Around.under_plainId F.plain_tuple_new _]
 have Ua:=sub_tuple_self
 have UC:=init_tuple_lookup
 have ZH:=madeHere_tuple
 have hT:s.TypeIs (.ref r) "range":=⟨_,hr,rfl⟩
 obtain ⟨hp,g,d,tk,os⟩:=s
 wp_walk using wpAny_typeOf hT,uj (A:=A.in1.in1) hh hr hs hn hz
 intro h' WF d9 hk kS
 show wpAny _ _ (Builtin.Tuple.tupleExact d9.toList.toArray>>=λv=>ret v) _ _ _
 unfold Builtin.Tuple.tupleExact
 refine ar (wpAny_newObj_type ?_ (by show d9.toList.toArray.size<=sizeLine;simp only [Array.toArray_toList];rw [kS.1,eW];exact lA ‹_› rfl))
 refine br ?_
 rw [Array.toArray_toList]
 exact ⟨⟨_,Heap.get?_push_size _ rfl,rfl⟩,h h' WF d9 hk kS⟩
end
theorem D6:typeLookup (.type "bytes") "__bytes__"=pure (some (.builtin "bytes.__bytes__")):=by rw [gT,gU];kernel_rfl
theorem yd:typeLookup (.type "bytearray") "__bytes__"=pure none:=by rw [gT,gU];kernel_rfl
theorem yW:typeLookup (.type "bytearray") "__index__"=pure none:=by rw [gT,gU];kernel_rfl
theorem oh:typeLookup (.type "bytearray") "__buffer__"=pure (some (.builtin "bytearray.__buffer__")):=by rw [gT,gU];kernel_rfl
theorem yM:typeLookup (.type "range") "__bytes__"=pure none:=by rw [gT,gU];kernel_rfl
theorem xQ:typeLookup (.type "range") "__index__"=pure none:=by rw [gT,gU];kernel_rfl
theorem pe:typeLookup (.type "range") "__buffer__"=pure none:=by rw [gT,gU];kernel_rfl
theorem Eo:splitId "range.__len__"=some ("range", "__len__"):=by decide+kernel
theorem Le:isSubtype (.type "range") (.type "range")=pure true:=by rw [isSubtype_type];kernel_rfl
section
variable {prog:Program}{w:World}{A:Around}{E:Value->Shared->Prop}{s:Shared}
theorem ow
  (h:codeAny (model prog w) A.in1 (.call (.builtin "bytes.__new__") ⟨[.type "bytes",x], []⟩) (wants (λobj s₁=>s₁.TypeIs obj "bytes"/\Q obj s₁) E) s):wpAny (model prog w) A (call (.type "bytes") [x]) Q E s:=
 callType_codes (Q₁:=λobj s₁=>s₁.TypeIs obj "bytes"/\Q obj s₁) F.bm_called (F.bm_typeCall _) F.entry_object_init h λobj s₁ h₁=>
  ⟨h₁.1,F.args_object_init_2 obj _,object_init_meets F.bm_called.init.lookup F.bm_called.made (by decide) prog w A.in1 _ s₁ ⟨h₁.1,rfl,h₁.2⟩⟩
theorem sV (h:Q (.bytes b t) s):wpAny (model prog w) A (call (.type "bytes") [.bytes b t]) Q E s:=by
 refine ow (codeAny_of_tree ?_)
 show wpAny _ _ (do checkBuiltinCall "bytes.__new__" ⟨[.type "bytes", .bytes b t], []⟩;again (.builtin "bytes.__new__" ⟨[.type "bytes", .bytes b t], []⟩)) _ _ s
 refine ar (cY (F.bm_newCall _) (br ⟨plainId_quiet F.bm_plain _,codeAny_builtin F.bm_entry ?_⟩))
 rw [Around.under_plainId F.bm_plain _]
 unfold Builtin.«bytes.__new__»
 refine ar (cY (a:=true) rfl ?_)
 refine bm_if_false rfl ?_
 refine ar (cY F.bm_sub ?_)
 refine bm_if_false rfl ?_
 refine ar (cY (F.bm_bind _) ?_)
 refine ar (cY (a:=()) rfl ?_)
 refine ar (cY (a:=()) rfl ?_)
 refine bm_if_false rfl ?_
 refine ar (fm (dT _ _ _) D6 ?_)
 refine ar (wpAny_rule ?_)
 refine ar (wpAny_typeOf (dT _ _ _) ?_)
 refine bm_if_true (by decide) ?_
 show wpAny _ _ (if (Value.type "bytes"==Value.type "bytes")=true then _ else _) _ _ _
 refine bm_if_true (by decide) ?_
 exact br ⟨dT _ _ _,h⟩
theorem uf (ho:s.heap.get? D=some (eL dp))(hz:dp.size<=sizeLine)(h:∀t tk,Q (.bytes dp t) {s with toks:=tk}):wpAny (model prog w) A (call (.type "bytes") [.ref D]) Q E s:=by
 refine ow (codeAny_of_tree ?_)
 show wpAny _ _ (do checkBuiltinCall "bytes.__new__" ⟨[.type "bytes", .ref D], []⟩;again (.builtin "bytes.__new__" ⟨[.type "bytes", .ref D], []⟩)) _ _ s
 refine ar (cY (F.bm_newCall _) (br ⟨plainId_quiet F.bm_plain _,codeAny_builtin F.bm_entry ?_⟩))
 rw [Around.under_plainId F.bm_plain _]
 have hT:=eD ho
 unfold Builtin.«bytes.__new__»
 refine ar (cY (a:=true) rfl ?_)
 refine bm_if_false rfl ?_
 refine ar (cY F.bm_sub ?_)
 refine bm_if_false rfl ?_
 refine ar (cY (F.bm_bind _) ?_)
 refine ar (cY (a:=()) rfl ?_)
 refine ar (cY (a:=()) rfl ?_)
 refine bm_if_false rfl ?_
 refine ar (fm hT yd ?_)
 refine ar (ar ?_)
 show wpAny _ _ (load D>>=_) _ _ _
 refine ar (wpAny_load ho ?_)
 refine br (br ?_)
 refine bm_if_false rfl ?_
 refine ar (fm hT yW ?_)
 refine bm_if_true rfl ?_
 first
  |show wpAny _ _ (Builtin.Bytes.buffer? "bytes.__new__" (.ref D) true>>=_) _ _ _
  |(refine ar ?_;show wpAny _ _ (Builtin.Bytes.buffer? "bytes.__new__" (.ref D) true>>=_) _ _ _)
 refine ar ?_
 unfold Builtin.Bytes.buffer?
 refine ar (fm hT oh ?_)
 refine ar ?_
 unfold Builtin.Bytes.slotIsOwn
 refine ar (fm hT oh ?_)
 refine bm_if_false (by decide+kernel) ?_
 show wpAny _ _ (isInstance (.ref D) (.type ("bytearray.__buffer__".dropRight ("__buffer__".length+1)))) _ _ _
 rw [show "bytearray.__buffer__".dropRight ("__buffer__".length+1)= "bytearray" by decide+kernel]
 refine wpAny_isInstance hT jT ?_
 refine bm_if_false rfl ?_
 refine ar (fm hT oh ?_)
 refine ar (nu ho ?_)
 refine bm_if_false rfl ?_
 refine ar ?_
 unfold Builtin.Bytes.payload Builtin.Bytes.payload?
 refine ar (ar (wpAny_load ho (br (br (br ?_)))))
 refine ar (wpAny_rule ?_)
 refine ar (wpAny_mkBytes ?_ hz)
 show wpAny _ _ (if (Value.type "bytes"==Value.type "bytes")=true then _ else _) _ _ _
 refine bm_if_true (by decide) ?_
 first
  |exact br ⟨dT _ _ _,h _ _⟩
  |exact ar (br (br ⟨dT _ _ _,h _ _⟩))
end
noncomputable def qG (a:Int)(i:Nat):Array UInt8:=((List.range i).map λ(k:Nat)=>(a+(k:Int)).toNat.toUInt8).toArray
theorem B7 (a:Int)(i:Nat):qG a (i+1)=(qG a i).push (a+(i:Int)).toNat.toUInt8:=by
 unfold qG
 rw [List.range_succ,eG]
 simp
theorem va (a:Int)(i:Nat):(qG a i).size=i:=by simp [qG]
section
variable {prog:Program}{w:World}{A:Around}{E:Value->Shared->Prop}{s:Shared}{r:Addr}{a b:Int}{t u v:Tok}{n:Nat}
theorem Ja {R:Result->Shared->Prop}{I S:Addr}(hh:A.handled=none)(h0:0<=a)(h1:a+n<=256)(RO:I≠S):
  ∀(k i:Nat) (s:Shared),n - i=k->i<=n->IsRangeIter s.heap I (a+(i:Nat)*1) ((n:Int) - (i:Nat)) 1->s.heap.get? S=some (eL (qG a i))->
   (∀h' t k',(∀b o,b≠I->b≠S->s.heap.get? b=some o->h'.get? b=some o)->R (.ok (.ret (.bytes (qG a n) t))) {s with heap:=h',toks:=k' })->
   codeAny (model prog w) A (.builtin "bytes.__new__.loop" ⟨[.type "bytes", .ref I, .ref S], []⟩) R s:=by
 have W:=Walks.range (prog:=prog) (w:=w) (A:=A.in1) hh I a 1 n
 intro k
 induction k with
 |zero=>
  intro i s hk hle hit hS hR
  have yP:i=n:=by lia
  subst yP
  refine codeAny_builtin F.bm_entry_loop ?_
  rw [Around.under_plainId F.bm_plain_loop _]
  show wpAny _ A.in1 (pyNext (.ref I)>>=_) _ _ s
  refine ar (W.done s _ _ hit λh' tk he=> ?_)
  have MH:h'.get? S=some (eL (qG a i)):=he S _ (λhm=>RO (eF hm).symm) hS
  refine ar ?_
  unfold Builtin.Bytes.payload Builtin.Bytes.payload?
  refine ar (ar (wpAny_load MH ?_))
  refine br (br ?_)
  refine ar (wpAny_mkBytes ?_ (by rw [va,eW];lia))
  show wpAny _ _ (if (Value.type "bytes"==Value.type "bytes")=true then _ else _) _ _ _
  refine bm_if_true (by decide) ?_
  first
   |exact br (hR h' _ _ λb o hb u8 e=>he b o (λhm=>hb (eF hm)) e)
   |exact ar (br (br (hR h' _ _ λb o hb u8 e=>he b o (λhm=>hb (eF hm)) e)))
 |succ k ih=>
  intro i s hk hle hit hS hR
  have lO:i<n:=by lia
  refine codeAny_builtin F.bm_entry_loop ?_
  rw [Around.under_plainId F.bm_plain_loop _]
  show wpAny _ A.in1 (pyNext (.ref I)>>=_) _ _ s
  refine ar (W.item i s _ _ lO hit λx h' tk hP Te hs=> ?_)
  obtain ⟨t,rfl⟩:=hP
  rw [Int.mul_one]
  have MH:h'.get? S=some (eL (qG a i)):=hs S _ (λhm=>RO (eF hm).symm) hS
  refine ar (wpAny_holding (cY (rfl:asIndex (.int (a+(i:Int)) t)=pure (a+(i:Int))) ?_))
  refine ar (wpAny_letGo ?_)
  refine bm_if_false (by simp only [Bool.or_eq_false_iff,decide_eq_false_iff_not];lia) ?_
  refine ar (mR MH (by rw [Array.size_push,va,eW];lia) λZG OX Oc=> ?_)
  rw [<-B7] at Oc
  refine br ⟨plainId_quiet F.bm_plain_loop _,ih (i+1) _ (by lia) lO ?_ Oc λh3 t' k' Uc=> ?_⟩
  ·exact (OX.2 I RO).trans Te
  ·exact hR h3 t' k' λb o UI Vr e=>Uc b o UI Vr ((OX.2 b Vr).trans (hs b o (λhm=>UI (eF hm)) e))
theorem pP (hr:IsRange s.heap r a b 1 t u v)(hn:Builtin.Range.rangeSize a b 1=n)(hz:n<=4096)(h:∀tk,Q () {s with toks:=tk}):wpAny (model prog w) A (Builtin.Bytes.lengthHint "bytes.__new__" (.ref r)) Q E s:=by
 have hT:s.TypeIs (.ref r) "range":=⟨_,hr,rfl⟩
 unfold Builtin.Bytes.lengthHint
 refine ar (fm hT F.slot_range_len.lookup ?_)
 dsimp only
 rw [Eo]
 dsimp only
 refine ar (wpAny_isInstance hT Le ?_)
 refine bm_if_false rfl ?_
 refine bm_if_false (by decide+kernel) ?_
 refine bm_if_true rfl ?_
 refine ar (wpAny_rule ?_)
 refine ar (wpAny_attempt (call_len_range hr hn (by lia) ?_))
 refine ar (m:=asInt? _) (br ?_)
 refine bm_if_false (by show decide ((n:Int).toNat>sizeLine)=false;rw [eW,decide_eq_false_iff_not];lia) ?_
 exact br (h _)
theorem sB (hh:A.handled=none)(hr:IsRange s.heap r a b 1 t u v)(hs:Builtin.Range.small a b 1=true)(hn:Builtin.Range.rangeSize a b 1=n)(h0:0<=a)(h1:a+n<=256)
  (h:∀(h' :Heap) (t:Tok) (tk:Nat),(∀b o,s.heap.get? b=some o->h'.get? b=some o)->Q (.bytes (qG a n) t) {s with heap:=h',toks:=tk}):wpAny (model prog w) A (call (.type "bytes") [.ref r]) Q E s:=by
 refine ow (codeAny_of_tree ?_)
 show wpAny _ _ (do checkBuiltinCall "bytes.__new__" ⟨[.type "bytes", .ref r], []⟩;again (.builtin "bytes.__new__" ⟨[.type "bytes", .ref r], []⟩)) _ _ s
 refine ar (cY (F.bm_newCall _) (br ⟨plainId_quiet F.bm_plain _,codeAny_builtin F.bm_entry ?_⟩))
 rw [Around.under_plainId F.bm_plain _]
 have hT:s.TypeIs (.ref r) "range":=⟨_,hr,rfl⟩
 unfold Builtin.«bytes.__new__»
 refine ar (cY (a:=true) rfl ?_)
 refine bm_if_false rfl ?_
 refine ar (cY F.bm_sub ?_)
 refine bm_if_false rfl ?_
 refine ar (cY (F.bm_bind _) ?_)
 refine ar (cY (a:=()) rfl ?_)
 refine ar (cY (a:=()) rfl ?_)
 refine bm_if_false rfl ?_
 refine ar (fm hT yM ?_)
 refine ar (ar ?_)
 show wpAny _ _ (load r>>=_) _ _ _
 refine ar (wpAny_load hr ?_)
 refine br (br ?_)
 refine bm_if_false rfl ?_
 refine ar (fm hT xQ ?_)
 refine bm_if_true rfl ?_
 first
  |show wpAny _ _ (Builtin.Bytes.buffer? "bytes.__new__" (.ref r) true>>=_) _ _ _
  |(refine ar ?_;show wpAny _ _ (Builtin.Bytes.buffer? "bytes.__new__" (.ref r) true>>=_) _ _ _)
 refine ar ?_
 unfold Builtin.Bytes.buffer?
 refine ar (fm hT pe ?_)
 refine ar (fm hT pe ?_)
 refine br ?_
 refine ar (wpAny_tryCatch (wpAny_pyIter_range hr hs ?_))
 have hit:IsRangeIter (s.heap.push {cls:= .type "range_iterator",data:= .fields #[rawInt a,rawInt (Builtin.Range.rangeSize a b 1),rawInt 1]}) s.heap.objs.size (a+((0:Nat):Int)*1) ((n:Int) - ((0:Nat):Int)) 1:=by
  show IsRangeIter _ _ _ _ _;rw [hn];simpa using Heap.get?_push_size _ rfl
 have GQ:IsRange (s.heap.push {cls:= .type "range_iterator",data:= .fields #[rawInt a,rawInt (Builtin.Range.rangeSize a b 1),rawInt 1]}) r a b 1 t u v:=fI _ hr
 have wV:(s.heap.push {cls:= .type "range_iterator",data:= .fields #[rawInt a,rawInt (Builtin.Range.rangeSize a b 1),rawInt 1]}).objs.size=s.heap.objs.size+1:=Heap.size_push _ _
 have cx:∀b' o,s.heap.get? b' =some o->(s.heap.push {cls:= .type "range_iterator",data:= .fields #[rawInt a,rawInt (Builtin.Range.rangeSize a b 1),rawInt 1]}).get? b' =some o:=λb' o e=>fI _ e
 generalize s.heap.push {cls:= .type "range_iterator",data:= .fields #[rawInt a,rawInt (Builtin.Range.rangeSize a b 1),rawInt 1]}=gp at hit GQ wV cx⊢
 refine ar (wpAny_holding (pP (s:={s with heap:=gp}) GQ hn (by lia) λtk=> ?_))
 refine ar ?_
 unfold Builtin.Bytes.newBytearray
 refine wpAny_newObj_type ?_ (Nat.zero_le _)
 have Xv:(gp.push (eL #[])).get? gp.objs.size=some (eL (qG a 0)):=Heap.get?_push_size _ rfl
 have main:=Ja (prog:=prog) (w:=w) (A:=A.in1) (a:=a) (n:=n) (R:=wants (λobj s₁=>s₁.TypeIs obj "bytes"/\Q obj s₁) E) (I:=s.heap.objs.size) (S:=gp.objs.size) hh h0 h1 (by rw [wV];exact cV (Nat.lt_succ_self _))
  n 0 {s with heap:=gp.push (eL #[]),toks:=tk} rfl (Nat.zero_le _) (fI _ hit) Xv
  λh' t' k hk=>⟨dT _ _ _,h h' t' k λb o e=>hk b o (cV (Heap.lt_size e)) (by rw [wV];exact cV (Nat.lt_succ_of_lt (Heap.lt_size e))) (fI _ (cx b o e))⟩
 first
  |exact br ⟨plainId_quiet F.bm_plain_loop _,main⟩
  |exact br (br ⟨plainId_quiet F.bm_plain_loop _,main⟩)
end
theorem p9 (x:Int):∀l,(xm x l).Perm (x::l)
 | []=> .refl _
 |y::r=>by
  rw [EC]
  split
  ·exact .refl _
  ·exact ((p9 x r).cons y).trans (.swap _ _ _)
theorem oy:∀l,(jJ l).Perm l
 | []=> .refl _
 |x::r=>(p9 x _).trans ((oy r).cons x)
set_option tactic.hygienic true in
theorem qS (x:Int):∀l:List Int,l.Pairwise (·<= ·)->(xm x l).Pairwise (·<= ·)
 | [],_=>by simp [xm]
 |y::r,h=>by
  rw [EC]
  rw [List.pairwise_cons] at h
  split
  ·rename_i q
   refine List.pairwise_cons.mpr ⟨λz hz=> ?_,List.pairwise_cons.mpr h⟩
   rcases cH hz with rfl|hz
   ·exact Int.le_of_lt ‹_›
   ·have:=h.1 z hz;lia
  ·rename_i q
   refine List.pairwise_cons.mpr ⟨λz hz=> ?_,qS x r h.2⟩
   rcases cH ((p9 x r).mem_iff.mp hz) with rfl|hz
   ·lia
   ·exact h.1 z hz
theorem pa:∀l:List Int,(jJ l).Pairwise (·<= ·)
 | []=> .nil
 |x::r=>qS x _ (pa r)
theorem Aa {l m:List Int}(hp:m.Perm l)(hs:m.Pairwise (·<= ·)):m=jJ l:=
 List.Perm.eq_of_pairwise (le:=(·<= ·)) (λa b u8 u8 h1 h2=>by lia) hs (pa l) (hp.trans (oy l).symm)
theorem v8:∀a b:By,hV a b=decide (a<b)
 | [], []=>by simp [show hV [] []=false from rfl]
 | [],_::_=>by simp [hV]
 |_::_, []=>by simp [hV]
 |x::a,y::b=>by
  have ih:=v8 a b
  rw [QA]
  by_cases h1:x<y
  ·simp [h1,List.cons_lt_cons_iff]
  ·by_cases h2:x=y
   ·subst h2
    simp [List.cons_lt_cons_iff,ih]
   ·simp [h1,h2,List.cons_lt_cons_iff]
theorem CC {a b c:By}(h1:hV b a=false)(h2:hV c b=false):hV c a=false:=by
 rw [v8,decide_eq_false_iff_not] at*
 exact List.not_lt.mpr (List.le_trans (List.not_lt.mp h1) (List.not_lt.mp h2))
theorem F4 {a b:By}(h:hV a b=true):hV b a=false:=by
 rw [v8] at*
 simp only [decide_eq_true_eq,decide_eq_false_iff_not] at*
 exact List.lt_asymm h
theorem pW (x:By):∀l,(td x l).Perm (x::l)
 | []=> .refl _
 |y::r=>by
  rw [FZ]
  split
  ·exact .refl _
  ·exact ((pW x r).cons y).trans (.swap _ _ _)
theorem kY:∀l,(jF l).Perm l
 | []=> .refl _
 |x::r=>(pW x _).trans ((kY r).cons x)
set_option tactic.hygienic true in
theorem qI (x:By):∀l:List By,l.Pairwise (λa b=>hV b a=false)->(td x l).Pairwise (λa b=>hV b a=false)
 | [],_=>by simp [td]
 |y::r,h=>by
  rw [FZ]
  rw [List.pairwise_cons] at h
  split
  ·rename_i q
   refine List.pairwise_cons.mpr ⟨λz hz=> ?_,List.pairwise_cons.mpr h⟩
   rcases cH hz with rfl|hz
   ·exact F4 q
   ·exact CC (F4 q) (h.1 z hz)
  ·rename_i q
   refine List.pairwise_cons.mpr ⟨λz hz=> ?_,qI x r h.2⟩
   rcases cH ((pW x r).mem_iff.mp hz) with rfl|hz
   ·simpa using q
   ·exact h.1 z hz
theorem po:∀l:List By,(jF l).Pairwise (λa b=>hV b a=false)
 | []=> .nil
 |x::r=>qI x _ (po r)
theorem Ak {l m:List By}(hp:m.Perm l)(hs:m.Pairwise (λa b=>hV b a=false)):m=jF l:=
 List.Perm.eq_of_pairwise (le:=λa b=>hV b a=false) (λa b u8 u8 h1 h2=>by
  rw [v8,decide_eq_false_iff_not] at h1 h2
  exact List.le_antisymm (List.not_lt.mp h1) (List.not_lt.mp h2)) hs (po l) (hp.trans (kY l).symm)
theorem tG {n:ao}{ah:dN}{us:List Value}{l:List Int}(h:IntsAre us l):aH n ah (l.map .int) us:=by
 induction h with
 |nil=>exact .nil
 |cons x t h ih=>exact .cons (.int x t) ih
set_option tactic.hygienic true in
theorem AC {vs:List SV}{l:List Int}(h:bT vs=some l):vs.length=l.length:=by
 induction vs generalizing l with
 |nil=>cases h;rfl
 |cons v vs ih=>
  cases v with
  |int i=>
   rw [Fw] at h
   split at h
   ·rename_i l' q;cases h;rw [dq,dq,ih q]
   ·exact nh h
  |_=>cases h
theorem Nx {lo hi:Int}:fq lo hi=rangeKs lo (hi - lo).toNat:=rfl
noncomputable def pp (v:Value):By:=(l9 v).map λc=>(c.toNat:Int)
theorem Bf {n:ao}{ah:dN}:∀{vs:List Value},j7 vs->(∀v∈vs,(pp v).length<=big)->aH n ah ((vs.map pp).map .bytes) vs
 | [],_,_=> .nil
 |v::vs,h,hl=>by
  refine .cons ?_ (Bf (λv hv=>h v (.tail _ hv)) λv hv=>hl v (.tail _ hv))
  refine Ad (h v (.head _)) λb t dc=> ?_;subst dc
  exact .bytes b t (by rw [KBw.ints_list];rfl) (hl _ (.head _))
theorem CH {n:ao}{ah:dN}{xs:List (By×SV)}{ys:List (List UInt8×Value)}(h:fX E7 n ah xs ys):xs.map (·.1)=ys.map (λp=>p.1.map λc=>(c.toNat:Int))/\∀p∈ys,p.1.length<=big:=by
 induction h with
 |nil=>exact ⟨rfl,λu8 h=>j1 h⟩
 |cons h1 h2 h3 ih=>
  refine ⟨?_,λp hp=> ?_⟩
  ·rw [dZ,dZ,ih.1,<-h1.1,KBw.ints_list]
  ·rcases cH hp with rfl|hp
   ·have:=h1.2
    rw [<-h1.1,KBw.ints_list] at this
    simpa using this
   ·exact ih.2 p hp
theorem Dv {a:Int}{n:Nat}(h0:0<=a)(h1:a+n<=256):KBw.bInts (qG a n)=rangeKs a n:=by
 rw [KBw.ints_list]
 unfold qG rangeKs
 rw [List.map_map]
 refine List.map_congr_left λk hk=> ?_
 have:=List.mem_range.mp hk
 show (((a+(k:Int)).toNat.toUInt8.toNat:Nat):Int)=_
 rw [byte_back (by lia) (by lia)]
section
variable {c:Cx}{d:Nat}{m:Str->Option Value}{ac:ao}{ah:dN}{H:HP}{s:Shared}{A:Around}{E:Value->Shared->Prop}
theorem aV.grow (hn:aV c m ac ah H s){h' :Heap}{t:Nat}(hk:∀b o,s.heap.get? b=some o->h'.get? b=some o):aV c m ac ah H {s with heap:=h',toks:=t}:=by
 obtain ⟨⟨g,T,F,N⟩,nd,hr,ce,sh⟩:=hn
 exact ⟨⟨g,T,F.keeps hk,N.grown hk⟩,nd,hr,ce,sh⟩
theorem F0 (hn:aV c m ac ah H s){g:Heap}{D:Addr}{dp:Array UInt8}{b:By}{t:Nat}{h' :Heap}(T:KtsTurn c.fs c.g₀ g)(F:Fr g c.L h' m)(N:News g c.L h' ((D,eL dp)::ac))(lt:∀q∈ac,q.1<D)(hb:KBw.bInts dp=b)(hl:b.length<=big):
  aV c m ((D,eL dp)::ac) (ah++ [(D,D)]) (H++ [.cw b]) {s with heap:=h',toks:=t}/\bq [] ac ah ((D,eL dp)::ac) (ah++ [(D,D)])/\av ((D,eL dp)::ac) (ah++ [(D,D)]) (.ref H.length) (.ref D):=
 have X:bq [] ac ah ((D,eL dp)::ac) (ah++ [(D,D)]):=bq.app _ _
 ⟨hn.new T F N lt (.cw (.head _) hb hl),X,sb hn⟩
theorem vm (hn:aV c m ac ah H s){a b:Int}{t u v:Tok}{tk:Nat}(h0:0<=a)(h1:a<=b)(h2:b<=big){k:Value->Shared->Prop}
  (q:∀az bM s' rx,aV c m az bM H s'->bq [] ac ah az bM->av az bM (.range a b) rx->k rx s'):
  k (.ref s.heap.objs.size) {s with heap:=s.heap.push {cls:= .type "range",data:= .fields #[.int a t, .int b u, .int 1 v]},toks:=tk}:=by
 refine hn.gE λg T F N=> ?_
 exact q _ _ _ _ (hn.more T (F.push _) (N.push F (zL a b t u v)) hn.lt) (bq.cons _) (.range (.head _) h0 h1 h2)
theorem Nl {l:List Int}{h:l.length<=big}:((l.map SV.int).length<=big):=by rw [bI];exact h
theorem qQ {H:HP}{C:Bi->SV->du SV->Prop}(bad:∀{b v},C b v .bad)(S7:∀x,C .len (.bytes x) (.ok (.int x.length) H))(TU:∀x,C .len (.tuple x) (.ok (.int x.length) H))(S9:∀r x,H[r]? =some (.list x)->C .len (.ref r) (.ok (.int x.length) H))
  (bB:∀x,C .bytes (.bytes x) (.ok (.bytes x) H)) (bR:∀lo hi,0<=lo/\hi<=256->C .bytes (.range lo hi) (.ok (.bytes (fq lo hi)) H)) (bA:∀r x,H[r]? =some (.cw x)->C .bytes (.ref r) (.ok (.bytes x) H)) (bL:∀r x l,H[r]? =some (.list x)->bT x=some l->lJ l=true->C .bytes (.ref r) (.ok (.bytes l) H))
  (rI:∀n,n<=4096/\0<=n->C .range (.int n) (.ok (.range 0 n) H)) (lL:∀r x,H[r]? =some (.list x)->C .list (.ref r) (.ok (.ref H.length) (H++ [.list x]))) (lR:∀lo hi,C .list (.range lo hi) (.ok (.ref H.length) (H++ [.list ((fq lo hi).map .int)])))
  (tL:∀r x,H[r]? =some (.list x)->C .tuple (.ref r) (.ok (.tuple x) H)) (tR:∀lo hi,C .tuple (.range lo hi) (.ok (.tuple ((fq lo hi).map .int)) H))
  (sL:∀r x l,H[r]? =some (.list x)->bT x=some l->l.length<64->C .sorted (.ref r) (.ok (.ref H.length) (H++ [.list ((jJ l).map .int)]))) (sD:∀r es,H[r]? =some (.cg es)->es.length<64->C .sorted (.ref r) (.ok (.ref H.length) (H++ [.list ((jF (es.map (·.1))).map .bytes)])))
  (sZ:∀r,H[r]? =some .aM->C .sorted (.ref r) (.ok (.ref H.length) (H++ [.list []]))) (uL:∀r x l,H[r]? =some (.list x)->bT x=some l->C .sum (.ref r) (.ok (.int l.sum) H)) (b:Bi) (v:SV):C b v (yp b v H):=by
 cases b with
 |len=>cases v with
  |bytes x=>exact S7 x
  |tuple x=>exact TU x
  |ref r=>
   show C _ _ (match H[r]? with|some (.list vs)=> .ok (.int vs.length) H|_=> .bad)
   cases hO:H[r]? with
   |none=>exact bad
   |some o=>cases o with
    |list x=>exact S9 r x hO
    |_=>exact bad
  |_=>exact bad
 |bytes=>cases v with
  |bytes x=>exact bB x
  |range lo hi=>
   show C _ _ (if 0<=lo/\hi<=256 then .ok (.bytes (fq lo hi)) H else .bad)
   split
   ·exact bR _ _ ‹_›
   ·exact bad
  |ref r=>
   show C _ _ (match H[r]? with
    |some (.cw b)=> .ok (.bytes b) H
    |some (.list vs)=>match bT vs with
     |some l=>if lJ l then .ok (.bytes l) H else .bad
     |none=> .bad
    |_=> .bad)
   cases hO:H[r]? with
   |none=>exact bad
   |some o=>cases o with
    |cw x=>exact bA r x hO
    |list x=>
     show C _ _ (match bT x with|some l=>if lJ l then .ok (.bytes l) H else .bad|none=> .bad)
     cases q:bT x with
     |none=>exact bad
     |some l=>
      show C _ _ (if lJ l then .ok (.bytes l) H else .bad)
      split
      ·exact bL r x l hO q ‹_›
      ·exact bad
    |_=>exact bad
  |_=>exact bad
 |range=>cases v with
  |int n=>
   show C _ _ (if n<=4096/\0<=n then .ok (.range 0 n) H else .bad)
   split
   ·exact rI _ ‹_›
   ·exact bad
  |_=>exact bad
 |list=>cases v with
  |ref r=>
   show C _ _ (match H[r]? with|some (.list vs)=> .ok (.ref H.length) (H++ [.list vs])|_=> .bad)
   cases hO:H[r]? with
   |none=>exact bad
   |some o=>cases o with
    |list x=>exact lL r x hO
    |_=>exact bad
  |range lo hi=>exact lR _ _
  |_=>exact bad
 |tuple=>cases v with
  |ref r=>
   show C _ _ (match H[r]? with|some (.list vs)=> .ok (.tuple vs) H|_=> .bad)
   cases hO:H[r]? with
   |none=>exact bad
   |some o=>cases o with
    |list x=>exact tL r x hO
    |_=>exact bad
  |range lo hi=>exact tR _ _
  |_=>exact bad
 |sorted=>cases v with
  |ref r=>
   show C _ _ (match H[r]? with
    |some (.list vs)=>match bT vs with
     |some l=>if l.length<64 then .ok (.ref H.length) (H++ [.list ((jJ l).map .int)]) else .bad
     |none=> .bad
    |some (.cg es)=>if es.length<64 then .ok (.ref H.length) (H++ [.list ((jF (es.map (·.1))).map .bytes)]) else .bad
    |some .aM=> .ok (.ref H.length) (H++ [.list []])
    |_=> .bad)
   cases hO:H[r]? with
   |none=>exact bad
   |some o=>cases o with
    |list x=>
     show C _ _ (match bT x with|some l=>if l.length<64 then .ok (.ref H.length) (H++ [.list ((jJ l).map .int)]) else .bad|none=> .bad)
     cases q:bT x with
     |none=>exact bad
     |some l=>
      show C _ _ (if l.length<64 then .ok (.ref H.length) (H++ [.list ((jJ l).map .int)]) else .bad)
      split
      ·exact sL r x l hO q ‹_›
      ·exact bad
    |cg es=>
     show C _ _ (if es.length<64 then .ok (.ref H.length) (H++ [.list ((jF (es.map (·.1))).map .bytes)]) else .bad)
     split
     ·exact sD r es hO ‹_›
     ·exact bad
    |aM=>exact sZ r hO
    |_=>exact bad
  |_=>exact bad
 |sum=>cases v with
  |ref r=>
   show C _ _ (match H[r]? with
    |some (.list vs)=>match bT vs with
     |some l=> .ok (.int l.sum) H
     |none=> .bad
    |_=> .bad)
   cases hO:H[r]? with
   |none=>exact bad
   |some o=>cases o with
    |list x=>
     show C _ _ (match bT x with|some l=> .ok (.int l.sum) H|none=> .bad)
     cases q:bT x with
     |none=>exact bad
     |some l=>exact uL r x l hO q
    |_=>exact bad
  |_=>exact bad
 |_=>exact bad
noncomputable abbrev Kk (c:Cx)(m:Str->Option Value)(ac:ao)(ah:dN)(x:SV)(H' :HP)(Q:Value->Shared->Prop):Prop:=∀az bM s' rx,aV c m az bM H' s'->bq [] ac ah az bM->av az bM x rx->Q rx s'
section
variable {Q:Value->Shared->Prop}{a:Addr}{aC:List Value}{n:Nat}{vs:List SV}{l:List Int}{lo hi:Int}{t u v:Tok}
theorem PH {dp:Array UInt8}(hn:aV c m ac ah H s)(h2:(KBw.bInts dp).length<=big)(k:Kk c m ac ah (.int (KBw.bInts dp).length) H Q):wpAny (model c.prog c.w) A (call (fk .len) [.bytes dp t]) Q E s:=by
 have wH:big=4096:=rfl
 exact KBw.len_K rfl (by exact lA ‹_› rfl) (k _ _ _ _ (hn.toks _) bq.refl (.int _ _))
theorem Lw (hn:aV c m ac ah H s)(hm:(a,jH aC)∈ac)(nG:aH ac ah vs aC)(hl:vs.length<=big)(k:Kk c m ac ah (.int vs.length) H Q):wpAny (model c.prog c.w) A (call (fk .len) [.ref a]) Q E s:=by
 refine hn.gE λg T F N=> ?_
 have sM:vs.length<=4096:=hl
 have kk:=k _ _ _ _ (hn.toks (s.toks+1+1)) bq.refl (.int (vs.length:Int) (s.toks+1))
 rw [nG.length] at kk sM
 exact PyProof.Rows.len_tuple (sE N hm) (by rw [List.size_toArray];lia) (by rw [List.size_toArray];exact kk)
theorem LP (hn:aV c m ac ah H s)(hm:(a,listOf aC.toArray n)∈ac)(nG:aH ac ah vs aC)(hl:vs.length<=big)(k:Kk c m ac ah (.int vs.length) H Q):wpAny (model c.prog c.w) A (call (fk .len) [.ref a]) Q E s:=by
 refine hn.gE λg T F N=> ?_
 have sM:vs.length<=4096:=hl
 have kk:=k _ _ _ _ (hn.toks (s.toks+1+1)) bq.refl (.int (vs.length:Int) (s.toks+1))
 rw [nG.length] at kk sM
 exact Calls.call_len_list (cj N hm) (by rw [List.size_toArray];lia) (by rw [List.size_toArray];exact kk)
theorem D8 (hh:A.handled=none)(hn:aV c m ac ah H s)(hm:(a,zL lo hi t u v)∈ac)(h0:0<=lo)(h1:lo<=hi)(hc:hi<=256)(k:Kk c m ac ah (.bytes (fq lo hi)) H Q):wpAny (model c.prog c.w) A (call (fk .bytes) [.ref a]) Q E s:=by
 refine hn.gE λg T F N=> ?_
 refine sB hh (N _ hm).1 (jK h0 h1 (by exact iA ‹_› rfl)) (rangeSize_nat lo hi) h0 (by lia) λh' t' tk hk=> ?_
 exact k _ _ _ _ (hn.grow hk) bq.refl (.bytes _ _ (Dv h0 (by lia)) (by unfold fq;rw [bI,List.length_range];show _<=4096;lia))
theorem HA {dp:Array UInt8}(hn:aV c m ac ah H s)(hm:(a,eL dp)∈ac)(hl:(KBw.bInts dp).length<=big)(k:Kk c m ac ah (.bytes (KBw.bInts dp)) H Q):wpAny (model c.prog c.w) A (call (fk .bytes) [.ref a]) Q E s:=by
 refine hn.gE λg T F N=> ?_
 exact uf (N _ hm).1 (by rw [<-KBw.ints_length,eW];exact cy hl (by unfold big;decide)) λt tk=>k _ _ _ _ (hn.toks tk) bq.refl (.bytes _ _ rfl hl)
theorem ER (hh:A.handled=none)(hn:aV c m ac ah H s)(hm:(a,listOf aC.toArray n)∈ac)(nG:aH ac ah vs aC)(hl:vs.length<=big)(hi:bT vs=some l)(ho:lJ l=true)(k:Kk c m ac ah (.bytes l) H Q):wpAny (model c.prog c.w) A (call (fk .bytes) [.ref a]) Q E s:=by
 refine hn.gE λg T F N=> ?_
 have yP:KBa.In l:=λz hz=>by
  have:=List.all_eq_true.mp ho z hz
  simpa using this
 have sM:l.length<=4096:=AC hi▸hl
 exact KBa.make_K F N hh (cj N hm) (nG.ints hi) yP (by exact lA ‹_› rfl) λh' t' k' F' N' u8=>k _ _ _ _ (⟨⟨g,T,F',N'⟩,hn.nd,hn.hr,hn.cells,hn.sh⟩) bq.refl (.bytes _ _ (KBa.ints_make yP) sM)
theorem Jz (hh:A.handled=none)(hn:aV c m ac ah H s)(hm:(a,zL lo hi t u v)∈ac)(h0:0<=lo)(h1:lo<=hi)(h2:hi<=big)(k:Kk c m ac ah (.ref H.length) (H++ [.list ((fq lo hi).map .int)]) Q):wpAny (model c.prog c.w) A (call (fk .list) [.ref a]) Q E s:=by
 refine hn.gE λg T F N=> ?_
 have kf:hi<=4096:=h2
 refine kll_range (n:=(hi - lo).toNat) hh F N (N _ hm).1 (jK h0 h1 (by assumption)) (rangeSize_nat lo hi) (by lia) λD us cc h' tk F' N' lt Nz=> ?_
 obtain ⟨a1,a2,a3⟩:=jv (t:=tk) hn T F' N' lt (tG Nz) (by rw [bI,rangeKs_length];show _<=4096;lia)
 exact k _ _ _ _ a1 a2 a3
theorem IT (hn:aV c m ac ah H s)(hm:(a,listOf aC.toArray n)∈ac)(nG:aH ac ah vs aC)(hl:vs.length<=big)(k:Kk c m ac ah (.ref H.length) (H++ [.list vs]) Q):wpAny (model c.prog c.w) A (call (fk .list) [.ref a]) Q E s:=by
 refine hn.gE λg T F N=> ?_
 refine list_copyK F N (cj N hm) (λD cc h' F' N' lt=> ?_) (by rw [List.size_toArray,eW,<-nG.length];exact cy hl (by unfold big;decide))
 refine rB (jv (t:=s.toks) hn T F' N' lt nG hl) λa1 a2 a3=> ?_
 exact k _ _ _ _ a1 a2 a3
theorem MP (hh:A.handled=none)(hn:aV c m ac ah H s)(hm:(a,zL lo hi t u v)∈ac)(h0:0<=lo)(h1:lo<=hi)(h2:hi<=big)(k:Kk c m ac ah (.tuple ((fq lo hi).map .int)) H Q):wpAny (model c.prog c.w) A (call (fk .tuple) [.ref a]) Q E s:=by
 refine hn.gE λg T F N=> ?_
 have kf:hi<=4096:=h2
 refine yT (n:=(hi - lo).toNat) hh (N _ hm).1 (jK h0 h1 (by assumption)) (rangeSize_nat lo hi) (by lia) λh' tk d9 hk kS=> ?_
 have hI:IntsAre d9.toList (rangeKs lo (hi - lo).toNat):=kll_ints _ _ _ (by rw [Array.length_toList];exact kS.1) λj v hj=>kS.2 j v (by rw [<-hj,Array.getElem?_toList])
 have F1:=F.keeps hk
 have N1:=N.grown hk
 have N2:=N1.push F1 (jH d9.toList)
 have e1:jH d9.toList={cls:= .type "tuple",data:= .seq d9}:=by show ({cls:= .type "tuple",data:= .seq d9.toList.toArray}:Obj)=_;rw [Array.toArray_toList]
 obtain ⟨a1,a2,a3⟩:=kt (t:=tk) hn T (F1.push (jH d9.toList)) N2 (λp hp=>Heap.lt_size (N1 p hp).1) (tG hI) (by rw [bI,rangeKs_length];show _<=4096;lia)
 rw [<-e1]
 exact k _ _ _ _ a1 a2 a3
theorem MA (hn:aV c m ac ah H s)(hm:(a,listOf aC.toArray n)∈ac)(nG:aH ac ah vs aC)(hl:vs.length<=big)(k:Kk c m ac ah (.tuple vs) H Q):wpAny (model c.prog c.w) A (call (fk .tuple) [.ref a]) Q E s:=by
 refine hn.gE λg T F N=> ?_
 have sM:vs.length<=4096:=hl
 rw [nG.length] at sM
 refine kde_tupleOf F N (cj N hm) (by rw [List.size_toArray];exact lA ‹_› rfl) rfl λD h' F' N' lt=> ?_
 refine rB (kt (t:=s.toks) hn T F' N' lt nG hl) λa1 a2 a3=> ?_
 exact k _ _ _ _ a1 a2 a3
theorem JX (hn:aV c m ac ah H s)(hm:(a,listOf aC.toArray n)∈ac)(nG:aH ac ah vs aC)(hi:bT vs=some l)(I8:l.length<64)(k:Kk c m ac ah (.ref H.length) (H++ [.list ((jJ l).map .int)]) Q):wpAny (model c.prog c.w) A (call (fk .sorted) [.ref a]) Q E s:=by
 refine hn.gE λg T F N=> ?_
 refine kso_sorted F N (cj N hm) (nG.ints hi) I8 λD Yo Zx cc h' F' N' lt hI U4 Ku Lf u8=> ?_
 have:=Aa Ku Lf
 subst this
 obtain ⟨a1,a2,a3⟩:=jv (t:=s.toks) hn T F' N' lt (tG hI) (by rw [bI,(oy l).length_eq];exact cy (Nat.le_of_lt I8) (by unfold big;decide))
 exact k _ _ _ _ a1 a2 a3
theorem Js {es:List (By×SV)}{ys:List (List UInt8×Value)}{vs:List Value}(Ra:es.map (·.1)=ys.map (λp=>p.1.map λc=>(c.toNat:Int)))(wV:vs.length=ys.length)(hit:∀(j:Nat) (h:j<vs.length),∃kx xx,ys[j]? =some (kx,xx)/\isBytes kx vs[j]=true):vs.map pp=es.map (·.1):=by
 rw [Ra]
 refine List.ext_getElem? λj=> ?_
 rw [iW,iW]
 rcases Nat.lt_or_ge j ys.length with hj|hj
 ·refine uy (hit j (by lia)) λkx xx e1 e2=> ?_
  rw [e1,eV (by lia)]
  obtain ⟨t,ht⟩:=isBytes_shape e2
  show some (pp vs[j])=some (kx.map _)
  unfold pp l9
  rw [ht]
 ·rw [List.getElem?_eq_none (by lia),List.getElem?_eq_none hj];rfl
theorem BI {o:Obj}{es:List (By×SV)}{ys:List (List UInt8×Value)}(hh:A.handled=none)(hn:aV c m ac ah H s)(hm:(a,o)∈ac)(lo:(a==sysModules)=false)(hd:o.IsDictOf (bytesKind c.prog c.w) ys)(AY:fX E7 ac ah es ys)(I8:es.length<64)
  (k:Kk c m ac ah (.ref H.length) (H++ [.list ((jF (es.map (·.1))).map .bytes)]) Q):wpAny (model c.prog c.w) A (call (fk .sorted) [.ref a]) Q E s:=by
 refine hn.gE λg T F N=> ?_
 refine Yq (kQ hn hm hd) λo' DE ep tz hx V9 rM Nj Uc=> ?_
 obtain ⟨Ra,Xj⟩:=CH AY
 refine yS (kvs:=ys) (ep:=ep) hh lo ⟨o',DE,tz,hx,V9,rM,Nj,Uc⟩ (AY.length▸I8) (λk v hv=>by obtain ⟨t,rfl⟩:=isBytes_shape hv;exact ⟨_,_,rfl⟩) λh₁ h' tk vs out ee E5 Jm Tt ED nV Pd NV=> ?_
 have wV:vs.length=ys.length:=by simpa using ED.1
 have nG:=Js Ra wV λj hj=>ED.2 j vs[j] (by simp)
 have S4:∀l:List Value,l.map pp=(l.map l9).map (λz=>z.map λc=>(c.toNat:Int)):=λl=>by rw [List.map_map];rfl
 have Bs:out.toList.map pp=jF (es.map (·.1)):=by
  refine Ak ?_ ?_
  ·rw [<-nG,S4,S4];exact Pd.map _
  ·rw [S4,List.pairwise_map]
   exact NV.imp λ{a b} KB=>by rw [wQ];exact KB
 have hle:∀v∈out.toList,(pp v).length<=big:=λv hv=>by
  have h1:pp v∈es.map (·.1):=(kY _).mem_iff.mp (Bs▸ip hv)
  rw [Ra] at h1
  refine aZ (gH h1) λp WK Wy=> ?_
  rw [<-Wy,bI]
  exact Xj p WK
 have N1:=N.grown E5
 have N2:=N1.kept_cons (F.keeps E5) Jm (bS _) Tt
 have Qo:=Bf (n:=ac) (ah:=ah) nV hle
 rw [Bs] at Qo
 rw [show seqObj "list" out ee=listOf out.toList.toArray ee by rw [Array.toArray_toList]] at N2
 obtain ⟨a1,a2,a3⟩:=jv (t:=tk) hn T ((F.keeps E5).keeps Jm) N2 (λq hq=>Heap.lt_size (N1 q hq).1) Qo (by
  rw [bI,(kY _).length_eq,bI];exact cy (Nat.le_of_lt I8) (by unfold big;decide))
 exact k _ _ _ _ a1 a2 a3
theorem PA (hh:A.handled=none)(hn:aV c m ac ah H s)(hm:(a,listOf aC.toArray n)∈ac)(nG:aH ac ah vs aC)(hi:bT vs=some l)(k:Kk c m ac ah (.int l.sum) H Q):wpAny (model c.prog c.w) A (call (fk .sum) [.ref a]) Q E s:=by
 refine hn.gE λg T F N=> ?_
 exact LSm.sum_ints F N hh (cj N hm) (nG.ints hi) λh' tk t' F' N' =>k _ _ _ _ (⟨⟨g,T,F',N'⟩,hn.nd,hn.hr,hn.cells,hn.sh⟩) bq.refl (.int _ _)
end
theorem HC (ok:c.Ok d)(hh:A.handled=none)(hg:A.guards=some [])(hn:aV c m ac ah H s){b:Bi}{v x:SV}{rv:Value}{H' :HP}{Q:Value->Shared->Prop}(hv:av ac ah v rv)(e:yp b v H= .ok x H')
  (k:Kk c m ac ah x H' Q):aG (model c.prog c.w) A (call (fk b) [rv]) Q E s:=by
 have hr:=hn.hr.obj
 have R:∀{r} {o:SO} {rv:Value},H[r]? =some o->av ac ah (.ref r) rv->∃p,rv= .ref p.1/\OV c.prog c.w c.S ac ah p o:=λhO hv=>by
  refine aZ (cL rfl hv) λp gP hp=> ?_;subst gP
  exact ⟨p,rfl,ov (hr _ _ p hO hp)⟩
 refine qQ (C:=λb v z=>z= .ok x H'->∀rv,av ac ah v rv->aG (model c.prog c.w) A (call (fk b) [rv]) Q E s) (λe=>HO e) (λx e rv hv=> ?_) (λx e rv hv=> ?_) (λr x hO e rv hv=> ?_) (λx e rv hv=> ?_) (λlo hi hc e rv hv=> ?_) (λr x hO e rv hv=> ?_)
  (λr x l hO hl ho e rv hv=> ?_) (λn hc e rv hv=> ?_) (λr x hO e rv hv=> ?_) (λlo hi e rv hv=> ?_) (λr x hO e rv hv=> ?_) (λlo hi e rv hv=> ?_) (λr x l hO hl I8 e rv hv=> ?_) (λr x hO I8 e rv hv=> ?_) (λr hO e rv hv=> ?_) (λr x l hO hl e rv hv=> ?_) b v e rv hv
 ·refine j8 (bh hv) λu8 u8 dc wI h2=> ?_;subst dc;subst wI
  exact oH e λa b=>ap (PH hn h2 (a▸b▸k))
 ·refine x7 (cS hv) λu8 u8 dc h1 h2 h3=> ?_;subst dc
  exact oH e λa b=>ap (Lw hn h1 h2 h3 (a▸b▸k))
 ·obtain ⟨_,rfl,_,_,h1,h2,h3⟩:=R hO hv
  exact oH e λa b=>ap (LP hn h1 h2 h3 (a▸b▸k))
 ·refine j8 (bh hv) λdp t dc h1 h2=> ?_;subst dc
  exact oH e λa b=>ap (sV ((a▸b▸k:Kk c m ac ah (.bytes x) H Q) _ _ _ _ (hn.toks s.toks) bq.refl (.bytes dp t h1.symm h2)))
 ·refine BL (nT hv) λu8 u8 u8 u8 Os h1 h2 h3 h4=> ?_;subst Os
  exact oH e λa b=>ap (D8 hh hn h1 h2 h3 hc.2 (a▸b▸k))
 ·obtain ⟨_,rfl,_,h1,rfl,h3⟩:=R hO hv
  exact oH e λa b=>ap (HA hn h1 h3 (a▸b▸k))
 ·obtain ⟨_,rfl,_,_,h1,h2,h3⟩:=R hO hv
  exact oH e λa b=>ap (ER hh hn h1 h2 h3 hl ho (a▸b▸k))
 ·obtain ⟨_,rfl⟩:=aR hv
  exact oH e λa b=>ap (call_range_1 (vm hn (by decide) hc.2 (by show _<=4096;lia) (a▸b▸k)))
 ·obtain ⟨_,rfl,_,_,h1,h2,h3⟩:=R hO hv
  exact oH e λa b=>ap (IT hn h1 h2 h3 (a▸b▸k))
 ·refine BL (nT hv) λu8 u8 u8 u8 Os h1 h2 h3 h4=> ?_;subst Os
  exact oH e λa b=>ap (Jz hh hn h1 h2 h3 h4 (a▸b▸k))
 ·obtain ⟨_,rfl,_,_,h1,h2,h3⟩:=R hO hv
  exact oH e λa b=>ap (MA hn h1 h2 h3 (a▸b▸k))
 ·refine BL (nT hv) λu8 u8 u8 u8 Os h1 h2 h3 h4=> ?_;subst Os
  exact oH e λa b=>ap (MP hh hn h1 h2 h3 h4 (a▸b▸k))
 ·obtain ⟨_,rfl,_,_,h1,h2,h3⟩:=R hO hv
  exact oH e λa b=>ap (JX hn h1 h2 hl I8 (a▸b▸k))
 ·obtain ⟨_,rfl,_,_,h1,lo,hd,AY,_⟩:=R hO hv
  exact oH e λa b=>ap (BI hh hn h1 lo hd AY I8 (a▸b▸k))
 ·obtain ⟨_,rfl,_,h1,lo,hd⟩:=R hO hv
  exact oH e λa b=>ap (BI (es:= []) hh hn h1 lo (hd _ (bytesKind c.prog c.w)) .nil (by decide) (a▸b▸k))
 ·obtain ⟨_,rfl,_,_,h1,h2,h3⟩:=R hO hv
  exact oH e λa b=>ap (PA hh hn h1 h2 hl (a▸b▸k))
theorem qM {H:HP}{C:Bi->SV->SV->du SV->Prop}(bad:∀{b v w},C b v w .bad)(ra:∀i j,0<=i/\i<=j/\j<=4096->C .range (.int i) (.int j) (.ok (.range i j) H))(mi:∀i j,C .min (.int i) (.int j) (.ok (.int (if j<i then j else i)) H))(b:Bi)(v w:SV):C b v w (x6 b v w H):=by
 cases v with
 |int i=>cases w with
  |int j=>cases b with
   |range=>
    show C _ _ _ (if 0<=i/\i<=j/\j<=4096 then .ok (.range i j) H else .bad)
    split
    ·exact ra i j ‹_›
    ·exact bad
   |min=>exact mi i j
   |_=>exact bad
  |_=>exact bad
 |_=>exact bad
theorem E4 (ok:c.Ok d)(hh:A.handled=none)(hg:A.guards=some [])(hn:aV c m ac ah H s){b:Bi}{v w x:SV}{rv rw:Value}{H' :HP}{Q:Value->Shared->Prop}(hv:av ac ah v rv)(hw:av ac ah w rw)(e:x6 b v w H= .ok x H')
  (k:Kk c m ac ah x H' Q):aG (model c.prog c.w) A (call (fk b) [rv,rw]) Q E s:=by
 refine qM (C:=λb v w z=>z= .ok x H'->av ac ah v rv->av ac ah w rw->aG (model c.prog c.w) A (call (fk b) [rv,rw]) Q E s) (λe=>HO e) (λi j hc e hv hw=> ?_) (λi j e hv hw=> ?_) b v w e hv hw
 ·obtain ⟨_,rfl⟩:=aR hv
  obtain ⟨_,rfl⟩:=aR hw
  exact oH e λa b=>ap (call_range_2 (vm hn hc.1 hc.2.1 hc.2.2 (a▸b▸k)))
 ·obtain ⟨_,rfl⟩:=aR hv
  obtain ⟨_,rfl⟩:=aR hw
  refine hn.gE λg T F N=> ?_
  exact oH e λa b=>ap (min_two_N hh F N λh' tk F' N' =>(a▸b▸k:Kk c m ac ah (.int (if j<i then j else i)) H Q) _ _ _ _ (⟨⟨g,T,F',N'⟩,hn.nd,hn.hr,hn.cells,hn.sh⟩) bq.refl (.int _ _))
theorem FI (ok:c.Ok d)(hg:A.guards=some [])(hn:aV c m ac ah H s){Q:Value->Shared->Prop}
  (k:∀az bM s' rx,aV c m az bM (H++ [.cw []]) s'->bq [] ac ah az bM->av az bM (.ref H.length) rx->Q rx s'):aG (model c.prog c.w) A (call (.type "bytearray") []) Q E s:=by
 refine hn.gE λg T F N=> ?_
 refine I5 hg λh' hs ho=> ?_
 have F' :Fr g c.L h' m:=by
  have F1:=F.push (eL #[])
  exact F1.keeps λb o e=>by
   by_cases q:b=s.heap.objs.size
   ·subst q
    rw [Heap.get?_push_size _ rfl] at e
    cases e;exact ho
   ·exact (hs.2 b q).trans e
 have cx:∀b o,s.heap.get? b=some o->h'.get? b=some o:=λb o e=>(hs.2 b (cV (Heap.lt_size e))).trans (fI _ e)
 refine rB (F0 (t:=s.toks) hn T F' (news_pushed F N cx ho rfl) hn.lt (b:= []) rfl (Nat.zero_le _)) λa1 a2 a3=> ?_
 exact k _ _ _ _ a1 a2 a3
set_option tactic.hygienic true in
theorem q9 {H:HP}{C:Bi->List SV->du SV->Prop}(bad:∀{b as},C b as .bad)(c0:C .bytearray [] (.ok (.ref H.length) (H++ [.cw []])))(c1:∀b v,C b [v] (yp b v H))(c2:∀b v w,C b [v,w] (x6 b v w H))(b:Bi)(as:List SV):C b as (bH b as H):=by
 cases as with
 |nil=>
  show C _ _ (if b= .bytearray then .ok (.ref H.length) (H++ [.cw []]) else .bad)
  split
  ·rename_i h;subst h;exact c0
  ·exact bad
 |cons v as=>cases as with
  |nil=>exact c1 b v
  |cons w as=>cases as with
   |nil=>exact c2 b v w
   |cons _ _=>exact bad
theorem qz {v:SV}{rs:List Value}(h:aH ac ah [v] rs):∃r,rs= [r]/\av ac ah v r:=by
 cases h with|cons h t=>cases t;exact ⟨_,rfl,h⟩
theorem Mw {v w:SV}{rs:List Value}(h:aH ac ah [v,w] rs):∃r q,rs= [r,q]/\av ac ah v r/\av ac ah w q:=by
 cases h with|cons h t=>
 refine aZ (qz t) λq gP h2=> ?_;subst gP
 exact ⟨_,_,rfl,h,h2⟩
theorem D7 (ok:c.Ok d)(hh:A.handled=none)(hg:A.guards=some [])(hn:aV c m ac ah H s){b:Bi}{as:List SV}{rs:List Value}{x:SV}{H' :HP}{Q:Value->Shared->Prop}(has:aH ac ah as rs)(e:bH b as H= .ok x H')
  (k:Kk c m ac ah x H' Q):aG (model c.prog c.w) A (call (fk b) rs) Q E s:=by
 refine q9 (C:=λb as z=>z= .ok x H'->aH ac ah as rs->aG (model c.prog c.w) A (call (fk b) rs) Q E s) (λe=>HO e) (λe h=> ?_) (λb v e h=> ?_) (λb v w e h=> ?_) b as e has
 ·cases h
  exact oH e λa b=>FI ok hg hn (a▸b▸k)
 ·refine aZ (qz h) λu8 gP h1=> ?_;subst gP
  exact HC ok hh hg hn h1 e k
 ·refine j8 (Mw h) λu8 u8 dc h1 h2=> ?_;subst dc
  exact E4 ok hh hg hn h1 h2 e k
end
section
variable {α:Type}{M:Model}{A:Around}{E:Value->Shared->Prop}{s:Shared}{env:Env}
theorem Ed {m:Sem α}{Q:α->Shared->Prop}(h:aG M A m Q E s):aG M A (m.keep vs) Q E s:=λΓ p i g=>by
 rw [Sem.wp_keep];exact h Γ p i g
theorem JP (h:aG M A (eval l env) (λa s₁=>aG M A (eval r env) (λb s₂=>aG M A (binaryOp op a b) Q E s₂) E s₁) E s):aG M A (eval (.BinOp l op r pos) env) Q E s:=by
 rw [arm_eval_BinOp]
 exact ag (aA h λa s₁ h₁=>ag (aD (aA h₁ λb s₂ h₂=>ag (aB (iq h₂)))))
theorem Ll (h:aG M A (eval x env) (λa s₁=>aG M A (unaryOp op a) Q E s₁) E s):aG M A (eval (.UnaryOp op x pos) env) Q E s:=by
 rw [arm_eval_UnaryOp]
 exact ag (aA h λa s₁ h₁=>ag (aB (aD h₁)))
theorem TN (h:aG M A (eval l env) (λa s₁=>aG M A (eval r env) (λb s₂=>aG M A (compareOp op a b) Q E s₂) E s₁) E s)
  (hm:behindInMarks op r=false):aG M A (eval (.Compare l [op] [r] pos) env) Q E s:=by
 rw [eval_Compare1,markedBehindIn_of_false hm]
 exact ag (aA h λa s₁ h₁=>ag (aD (aA h₁ λb s₂ h₂=>ag (aB (iq h₂)))))
theorem Fv {l r whole:_}(h:aG M A (eval l env) (λa s₁=>aG M A (eval r env) (λb s₂=>aG M A (compareOp op a b) (λc s₃=>aG M A (truthy c) Q E s₃) E s₂) E s₁) E s)
  (hm:behindInMarks op r=false):aG M A (isTrue (.Compare l [op] [r] pos) env whole) Q E s:=by
 rw [isTrue_Compare1,markedBehindIn_of_false hm]
 exact ag (aA h λa s₁ h₁=>ag (aD (aA h₁ λb s₂ h₂=>ag (aB (ag (iq (aA h₂ λc s₃ h₃=>aD h₃)))))))
theorem Mg (h:aG M A (eval v env) (λo s₁=>aG M A (eval i env) (λk s₂=>aG M A (subscriptTail v i o k) Q E s₂) E s₁) E s):aG M A (eval (.Subscript v i pos) env) Q E s:=by
 rw [arm_eval_Subscript]
 exact ag (aA h λo s₁ h₁=>ag (aD (aA h₁ λk s₂ h₂=>ag (aB h₂))))
theorem KE (h:match e with|some e=>aG M A (eval e env) Q E s|none=>Q .none s):aG M A (valueOrNone (evalOpt e env)) Q E s:=by
 cases e with
 |none=>exact aq h
 |some e=>exact h
theorem Fh {lo hi:Option Expr}(h:aG M A (valueOrNone (evalOpt lo env)) (λl s₁=>aG M A (valueOrNone (evalOpt hi env)) (λu s₂=>
   Q (.ref s₂.heap.objs.size) {s₂ with heap:=s₂.heap.push {cls:= .type "slice",data:= .fields #[l,u, .none]}}) E s₁) E s):aG M A (eval (.Slice lo hi none p) env) Q E s:=by
 rw [arm_eval_Slice]
 exact ag (aA h λl s₁ h₁=>ag (aD (aA h₁ λu s₂ h₂=>ag (aD (aq (ap (wpAny_newObj_type h₂)))))))
theorem RW (h:aG M A (isTrue t env (eval t env)) (λc s₁=>if c=true then aG M A (eval a env) Q E s₁ else aG M A (eval b env) Q E s₁) E s):aG M A (eval (.IfExp t a b pos) env) Q E s:=by
 rw [arm_eval_IfExp]
 exact ag (aA h λc s₁ h₁=>by cases c<;>exact h₁)
theorem DS {k:_}(h:aG M A (spliced (backTo pos (starEach es env))) (λvs s₁=>aG M A (newTuple vs) Q E s₁) E s):aG M A (eval (.Tuple es k pos) env) Q E s:=by
 rw [arm_eval_Tuple]
 exact ag (aB (ag h))
theorem P7 (h:aG M A (spliced (backTo pos (starEach es env))) (λvs s₁=>aG M A (newList vs) Q E s₁) E s):aG M A (eval (.List es pos) env) Q E s:=by
 rw [arm_eval_List]
 exact ag (aB (ag h))
theorem AZ (h:Q [] s):aG M A (spliced (backTo pos (starEach [] env))) Q E s:=aq h
theorem xv (hs:stop e=false)
  (h:aG M A (eval e env) (λv s₁=>aG M A (spliced (backTo pos (starEach aI env))) (λvs s₂=>Q (v::vs) s₂) E s₁) E s):aG M A (spliced (backTo pos (starEach (e::aI) env))) Q E s:=by
 rw [(pl e).star hs]
 show aG M A (do let v<-eval e env;let here<-(pure [v]:Sem (List Value));return here++(<-holding here (spliced (backTo pos (starEach aI env))))) Q E s
 exact ag (aA h λv s₁ h₁=>ag (aq (ag (aD (aA h₁ λvs s₂ h₂=>aq h₂)))))
theorem u5 (h:aG M A (eval e env) Q E s):aG M A (boolOp pos op (evalEach [e] env)) Q E s:=h
theorem vA
  (h:aG M A (eval e env) (λv s₁=>aG M A (truthy v) (λt s₂=>match op,t with
   | .And,false| .Or,true=>Q v s₂
   |_,_=>aG M A (boolOp pos op (evalEach (e' ::aI) env)) Q E s₂) E s₁) E s):aG M A (boolOp pos op (evalEach (e::e' ::aI) env)) Q E s:=by
 show aG M A (do let v<-eval e env;standAt pos;let t<-holding [v] (truthy v);match op,t with
  | .And,false| .Or,true=>pure v
  |_,_=>boolOp pos op (evalEach (e' ::aI) env)) Q E s
 refine ag (aA h λv s₁ h₁=>ag (aB (ag (aD (aA h₁ λt s₂ h₂=> ?_)))))
 cases op<;>cases t<;>first|exact aq h₂|exact h₂
theorem AR (h:Q (op== .And) s):aG M A (allTrue op [] env) Q E s:=aq h
theorem xL (h:aG M A (isTrue e env (eval e env)) (λt s₁=>match op,t with
   | .And,false=>Q false s₁
   | .Or,true=>Q true s₁
   |_,_=>aG M A (allTrue op aI env) Q E s₁) E s):aG M A (allTrue op (e::aI) env) Q E s:=by
 rw [arm_allTrue_cons]
 refine ag (aA h λt s₁ h₁=> ?_)
 cases op<;>cases t<;>first|exact aq h₁|exact h₁
theorem Ef (h:aG M A (isTrue x env (eval x env)) (λb=>Q (!b)) E s):aG M A (isTrue (.UnaryOp .Not x pos) env whole) Q E s:=by
 rw [arm_isTrue_UnaryOp]
 exact ag (aA h λb s₁ h₁=>aq h₁)
theorem vF (h:aG M A (allTrue op es env) Q E s):aG M A (isTrue (.BoolOp op es pos) env whole) Q E s:=by
 rw [arm_isTrue_BoolOp];exact h
theorem E2 (hp:mO e=true)(h:aG M A (eval e env) (λv s₁=>aG M A (truthy v) Q E s₁) E s):aG M A (isTrue e env (eval e env)) Q E s:=by
 rw [(pl e).Xp hp]
 exact ag (aA h λv s₁ h₁=>ag (aB (aD h₁)))
theorem Qu (hs:jV v=true)
  (h:aG (model prog w) A (eval v env) (λo s₁=>aG (model prog w) A (getAttr o attr true) (λr s₂=>Q r s₂) E s₁) E s):aG (model prog w) A (eval (.Attribute v attr pos) env) Q E s:=by
 rw [arm_eval_Attribute,(pl v).base hs]
 exact ag (aA h λo s₁ h₁=>ag (aB (ag (aD (aA h₁ λr s₂ h₂=>ag (ap (wpAny_letTemporaryGo (show aG _ _ _ _ _ _ from aq h₂))))))))
theorem gz:∀(es:List Expr) (pos:Pos),es.all (λe=> !stop e)=true->(backTo pos (starEach es env)).any (·.1)=false/\(backTo pos (starEach es env)).all (λx=> !x.1)=true
 | [],_,_=>⟨rfl,rfl⟩
 |e::r,pos,h=>by
  simp only [List.all_cons,Bool.and_eq_true,Bool.not_eq_true'] at h
  obtain ⟨a,b⟩:=gz r pos h.2
  rw [(pl e).star h.1]
  exact ⟨by show (false||_)=false;rw [Bool.false_or];exact a,by show (true&&_)=true;rw [Bool.true_and];exact b⟩
theorem Qa (hp:args.any (·.1)=false)(h:aG M A (spliced args) (λvs s₁=>Q ⟨vs, []⟩ s₁) E s):aG M A (evalArgs f true args []) Q E s:=by
 have fin:∀vs s₁,Q ⟨vs, []⟩ s₁->aG M A (holding (vs++(none:Option Value).toList) (do let pos<-(pure vs:Sem (List Value));return (⟨pos, []⟩:Args))) Q E s₁:=λvs s₁ h₁=>aD (ag (aq (aq h₁)))
 have main:aG M A (do let vs<-spliced args;holding (vs++(none:Option Value).toList) (do let pos<-(pure vs:Sem (List Value));return (⟨pos, []⟩:Args))) Q E s:=ag (aA h λvs s₁ h₁=>fin vs s₁ h₁)
 cases args with
 |nil=>exact main
 |cons a r=>
  obtain ⟨b,x⟩:=a
  cases r with
  |nil=>
   cases b with
   |false=>exact main
   |true=>exact Cg hp
  |cons y r=>cases b<;>exact main
theorem pT (hp:args.any (·.1)=false)
  (h:aG M A (spliced args) (λvs s₁=>(∃k,(k=Keeper.frame∨k=Keeper.machine∨k=Keeper.boundFrame)/\Looks M s₁.heap (keeperOf f) k)/\aG M A (call f (first++vs) []) Q E s₁) E s):aG M A (callWith pos f first args []) Q E s:=by
 unfold callWith
 refine ag (aD (Qa hp (aA h λvs s₁ h₁=>ag (aB ?_))))
 obtain ⟨⟨k,hk,L⟩,h₁⟩:=h₁
 have tail:∀{t:Sem Value},aG M A t Q E s₁->aG M A (t>>=λr=>holding [r] point>>=λu8=>pure r) Q E s₁:=
  λht=>ag (aA ht λr s₂ hr=>ag (aD (uZ (aq hr))))
 have marked (mk:Value):aG M A (callMarked mk f (first++vs) []) Q E s₁:=by unfold callMarked;exact Ed h₁
 have two:∀{n:Nat} {mk:Value},aG M A (if n>30 then call f (first++vs) []>>=λr=>holding [r] point>>=λu8=>pure r else callMarked mk f (first++vs) []>>=λr=>holding [r] point>>=λu8=>pure r) Q E s₁:=λ{n mk}=>by
  by_cases e:n>30
  ·rw [if_pos e];exact tail h₁
  ·rw [if_neg e];exact tail (marked mk)
 rw [hp]
 refine ag (ap (L.here (show aG _ _ _ _ _ _ from ?_)))
 rcases hk with rfl|rfl|rfl
 ·exact two
 ·exact tail h₁
 ·exact two
theorem vj {id:Str}(h:aG M A (eval (.Name id p) env) (λf s₁=>aG M A (callWith pos f [] (backTo pos (starEach args env)) []) Q E s₁) E s):
  aG M A (eval (.Call (.Name id p) args [] pos) env) Q E s:=by
 rw [arm_eval_Call_Name']
 exact ag h
theorem QF (ho:jV o=true)(hs:args.all (λe=> !stop e)=true)(hn:args.length<30)(hl:(apos.endLine==pos.line)=true)
  (h:aG M A (eval o env) (λov s₁=>∀pl,aG M A (getMethod ov name pl) (λfx s₂=>aG M A (callWith pos fx.1 fx.2 (backTo pos (starEach args env)) []) Q E s₂) E s₁) E s):
  aG M A (eval (.Call (.Attribute o name apos) args [] pos) env) Q E s:=by
 rw [arm_eval_Call,(pl o).base ho]
 refine ag (aA h λov s₁ h₁=>ag (aB ?_))
 have hf:methodCallForm (args.length+([]:List Keyword).length) (backTo pos (starEach args env)) (backToKw pos (keywordEach [] env))=true:=by
  unfold methodCallForm
  rw [(gz args pos hs).2]
  show (true&&true&&decide (args.length+0+0<30))=true
  simpa using hn
 unfold methodCall
 rw [hf]
 refine ag (aD ?_)
 unfold calleeOf
 rw [if_pos rfl]
 refine aA (h₁ _) λfx s₂ h₂=> ?_
 obtain ⟨f,first⟩:=fx
 have hp:methodCallPos true o env apos pos=pure pos:=by
  unfold methodCallPos
  rw [hl];rfl
 dsimp only
 rw [hp]
 exact ag (aq h₂)
end
noncomputable def fu (P:Heap->Prop){α:Type}:Sem α->Prop
 | .pure _=>True
 | .raise _=>True
 | .unsupported _=>True
 | .finish _=>True
 | .rule _ k=>fu P (k ())
 | .at _ k=>fu P (k ())
 | .load _ _ k=>∀o,fu P (k o)
 | .update a _ f k=>(∀h,P h->P (h.update a f))/\fu P (k ())
 | .alloc o k=>(∀h,P h->P (h.push o))/\∀a,fu P (k a)
 | .loadIfAlive _ k=>∀o,fu P (k o)
 | .point _ k=>fu P (k ())
 | .fresh k=>∀t,fu P (k t)
 | .ask k=>∀x,fu P (k x)
 | .handled _ k=>∀x,fu P (k x)
 | .stack k=>∀x,fu P (k x)
 | .thread k=>∀x,fu P (k x)
 |_=>False
section
variable {P:Heap->Prop}
theorem bP {α β:Type}:∀{m:Sem α} {f:α->Sem β},fu P m->(∀a,fu P (f a))->fu P (m>>=f):=by
 intro m f hm hf
 show fu P (m.bind f)
 induction m with
 |pure a=>exact hf a
 |raise|unsupported|finish=>trivial
 |rule _ k ih|«at» _ k ih|point _ k ih=>exact ih () hm
 |load _ _ k ih|loadIfAlive _ k ih|fresh k ih|ask k ih|handled _ k ih|stack k ih|thread k ih=>exact λx=>ih x (hm x)
 |update a p g k ih=>exact ⟨hm.1,ih () hm.2⟩
 |alloc o k ih=>exact ⟨hm.1,λa=>ih a (hm.2 a)⟩
 |_=>exact hm.elim
theorem II {α:Type}{Γ:PySem.Ctx}:∀{t:Sem α} {Q:α->Pos->Shared->Prop} {E:Value->Pos->Shared->Prop} {p:Pos} {s:Shared},fu P t->P s.heap->Sem.wp M Γ t Q E p s->Sem.wp M Γ t (λa p s=>Q a p s/\P s.heap) (λe p s=>E e p s/\P s.heap) p s:=by
 intro t
 induction t with
 |pure a=>intro Q E p s _ hp h;exact ⟨h,hp⟩
 |raise e=>intro Q E p s _ hp h;exact ⟨h,hp⟩
 |unsupported|finish=>intro Q E p s _ _ h;exact h.elim
 |rule _ k ih=>intro Q E p s hk hp h;exact ih () hk hp h
 |«at» q k ih=>intro Q E p s hk hp h;exact ih () hk hp h
 |point _ k ih=>intro Q E p s hk hp h;exact ih () hk hp h
 |load a _ k ih=>intro Q E p s hk hp h;obtain ⟨o,ho,h⟩:=h;exact ⟨o,ho,ih o (hk o) hp h⟩
 |loadIfAlive a k ih=>intro Q E p s hk hp h;exact ih _ (hk _) hp h
 |update a _ f k ih=>intro Q E p s hk hp h;exact ⟨h.1,ih () hk.2 (hk.1 _ hp) h.2⟩
 |alloc o k ih=>intro Q E p s hk hp h;exact ih _ (hk.2 _) (hk.1 _ hp) h
 |fresh k ih=>intro Q E p s hk hp h;exact ih _ (hk _) hp h
 |ask k ih=>intro Q E p s hk hp h;exact ih _ (hk _) hp h
 |handled o k ih=>intro Q E p s hk hp h;exact ih _ (hk _) hp h
 |stack k ih=>intro Q E p s hk hp h;exact ih _ (hk _) hp h
 |thread k ih=>intro Q E p s hk hp h;exact ih _ (hk _) hp h
 |_=>intro Q E p s hk _ _;exact hk.elim
theorem jw {α:Type}{t:Sem α}{Q:α->Shared->Prop}(hk:fu P t)(hp:P s.heap)(h:wpAny M A t Q E s):wpAny M A t (λa s' =>Q a s' /\P s'.heap) (λe s' =>E e s' /\P s'.heap) s:=
 λΓ p i=>II hk hp (h Γ p i)
end
theorem mB {p:Prop}{P:Heap->Prop}{α:Type}{t:Sem α}(h:fu P t):fu (λh=>p->P h) t:=by
 induction t with
 |pure|raise|unsupported|finish=>trivial
 |rule _ k ih|«at» _ k ih|point _ k ih=>exact ih () h
 |load _ _ k ih|loadIfAlive _ k ih|fresh k ih|ask k ih|handled _ k ih|stack k ih|thread k ih=>exact λx=>ih x (h x)
 |update a q g k ih=>exact ⟨λx y z=>h.1 x (y z),ih () h.2⟩
 |alloc o k ih=>exact ⟨λx y z=>h.1 x (y z),λa=>ih a (h.2 a)⟩
 |_=>exact h.elim
noncomputable def ef (e:Addr)(h:Heap):Prop:=∃o vs,h.get? e=some o/\o.data= .fields vs/\vs[2]? =some .none
section
variable {e:Addr}
theorem Av (x:ef e h):ef e (h.push o):=let ⟨ob,vs,a,b,c⟩:=x;⟨ob,vs,fI _ a,b,c⟩
theorem qO (hf:∀o vs,o.data= .fields vs->vs[2]? =some .none->∃ws,(f o).data= .fields ws/\ws[2]? =some .none)(x:ef e h):ef e (h.update a f):=by
 refine j8 x λo vs h1 h2 h3=> ?_;clear x
 by_cases q:e=a
 ·subst q
  refine aZ (hf o vs h2 h3) λws w1 w2=> ?_
  exact ⟨_,ws,Heap.get?_update_self f h1 (Obj.isFreed_of_fields w1),w1,w2⟩
 ·exact ⟨o,vs,(Heap.get?_update_other h f (Ne.symm q)).trans h1,h2,h3⟩
theorem yH (hi:i≠2)(x:ef e h):ef e (h.update a (Obj.mapFields (·.setIfInBounds i v))):=
 qO (λo vs h1 h2=>⟨_,Obj.data_mapFields h1 _,by rw [Array.getElem?_setIfInBounds_ne hi];exact h2⟩) x
theorem uH:fu (ef e) (fieldsOf v):=by
 unfold fieldsOf
 cases v with
 |ref a=>
  refine bP (m:=load a) (λo=>trivial) λo=> ?_
  split<;>trivial
 |_=>trivial
theorem k8:fu (ef e) (field v i):=by
 unfold field
 refine bP uH λvs=> ?_
 split<;>trivial
theorem j5 (hi:i≠2):fu (ef e) (setField v i x):=by
 unfold setField
 cases v with
 |ref a=>
  show fu _ (updateField a i x)
  unfold updateField
  refine bP (m:=load a) (λo=>trivial) λo=> ?_
  split
  ·split
   ·exact ⟨λh hp=>yH hi hp,trivial⟩
   ·trivial
  ·trivial
 |_=>trivial
theorem jm:fu (ef e) (setFlight v f):=by
 unfold setFlight
 refine bP k8 λtb=> ?_
 split
 ·exact j5 (by decide)
 ·trivial
theorem HJ {f:List (Code×Pos)->Bool}:fu (ef e) (do return f (<-stack)):=λu8=>trivial
theorem uw:∀{l:List Env},fu (ef e) (keptBack env b l)
 | []=>by
  show fu (ef e) (if (env.scope.isGenerator||env.scope.isCoroutine)=true then pure Value.none else (do return if<-underTheClaimsCaller then .notImplemented else .none))
  split
  ·trivial
  ·refine bP (m:=underTheClaimsCaller) (λu8=>trivial) λt=> ?_
   trivial
 |_::_=>trivial
theorem kj:∀{l:List Env},fu (ef e) (readyFrames l)
 | []=>trivial
 |env::outer=>by
  unfold readyFrames
  cases env.frame with
  |none=>trivial
  |some f=>
   refine bP (m:=load f) (λo=>trivial) λo=> ?_
   split
   ·trivial
   ·refine bP (m:=behindIsImport env outer) ?_ λim=>bP uw λback=>bP (m:=update f _) ⟨λh hp=>qO (λo vs h1 h2=>⟨vs,h1,h2⟩) hp,trivial⟩ λu8=>kj
    unfold behindIsImport
    split
    ·trivial
    ·split
     ·trivial
     ·exact bP k8 λu8=>trivial
theorem wa:fu (ef e) (PySem.frameOf env):=by
 unfold PySem.frameOf
 refine bP (m:=frameEnvs) (λu8=>trivial) λl=>bP ?_ λr=> ?_
 ·cases (l.dropWhile (·.frame !=env.frame)) with
  |nil=>trivial
  |cons a b=>exact bP kj λu8=>trivial
 ·cases r<;>trivial
theorem uC:fu (ef e) (EntryCells.newEntry a b c d f l):=by
 unfold EntryCells.newEntry newFields newObj
 dsimp only
 generalize ([a,b,c,d,f]++if l.isEmpty=true then List.replicate 6 Value.none else l).toArray=xs
 split
 ·trivial
 ·exact ⟨λh hp=>Av hp,λu8=>trivial⟩
theorem o7:fu (ef e) (entryPlaceOf f b):=by
 unfold entryPlaceOf
 refine bP (m:=stack) (λu8=>trivial) λYX=> ?_
 split<;>trivial
theorem mj:fu (ef e) (noteFrame v env):=by
 have fin:∀(f:Addr) (head:Value),fu (ef e) (do setField v 1 (<-EntryCells.newEntry head (<-PySem.frameOf env) .none (rawInt f) .none (<-entryPlaceOf f (head != .none)))):=λf head=>
  bP wa λa=>bP o7 λpl=>bP uC λb=>j5 (by decide)
 unfold noteFrame
 cases env.frame with
 |none=>trivial
 |some f=>
  refine bP k8 λhead=> ?_
  split
  ·refine bP k8 λx=> ?_
   split
   ·trivial
   ·exact bP (j5 (by decide)) λu8=>fin f head
  ·exact fin f head
theorem pH:fu (ef e) (leaving env v):=bP mj λu8=>jm
end
noncomputable def kg (c:Cx)(m:Str->Option Value)(k:Nat)(ac:ao)(ev:Value)(s:Shared):Prop:=
 ∃e t vs G,ev= .ref e/\RaisedS c.base G (c.env::c.outer) e (.ref (c.S.dF k)) t vs ac s.heap/\G.UpToSlots s.heap/\(∃g,KtsTurn c.fs c.g₀ g/\Fr g c.L G m)/\(c.S.HU k=false->ef e s.heap)
structure CS (c:Cx)(ac:ao)(ah:dN)(H:HP)(s:Shared):Prop where
 nd:(ac.map (·.1)).Nodup
 hr:fF c.prog c.w c.S ac ah H
 cells:∀x a,c.cl.lookup x=some a->∃o v₀,(a,o)∈ac/\o.data= .cell v₀
 sh:s.gens=c.gens/\s.drawn=c.drawn/\s.os=c.os
noncomputable def bw {α β:Type}(rel:ao->dN->α->β->Prop)(c:Cx)(m:Str->Option Value)(ac:ao)(ah:dN)(o:du α)(Q:β->Shared->Prop)(E:Value->Shared->Prop):Prop:=match o with
 | .ok x H' =>∀az bM s' rx,aV c m az bM H' s'->bq [] ac ah az bM->rel az bM x rx->Q rx s'
 | .exc k H' =>∀az bM s' ev,CS c az bM H' s'->bq [] ac ah az bM->kg c m k az ev s'->E ev s'
 | .bad=>False
noncomputable def xV:ao->dN->Bool->Bool->Prop:=λu8 u8 a b=>a=b
section
variable {α β γ δ:Type}{rel:ao->dN->α->β->Prop}{QH:ao->dN->γ->δ->Prop}{c:Cx}{m:Str->Option Value}{ac n' :ao}{ah l' :dN}{Q:β->Shared->Prop}{Q' :δ->Shared->Prop}{E:Value->Shared->Prop}
theorem bw.base {o:du α}(x:bq [] ac ah n' l')(h:bw rel c m ac ah o Q E):bw rel c m n' l' o Q E:=by
 cases o with
 |ok a H=>exact λn2 l2 s' r N X V=>h n2 l2 s' r N (x.trans X) V
 |exc k H=>exact λn2 l2 s' ev N X V=>h n2 l2 s' ev N (x.trans X) V
 |bad=>exact h
theorem bw.bind {o:du α}{f:α->HP->du γ}{Q1:β->Shared->Prop}(h:bw QH c m ac ah (o.bind f) Q' E)
  (k:∀x H1 n1 l1 s1 rx,aV c m n1 l1 H1 s1->bq [] ac ah n1 l1->rel n1 l1 x rx->bw QH c m n1 l1 (f x H1) Q' E->Q1 rx s1):bw rel c m ac ah o Q1 E:=by
 cases o with
 |ok a H=>exact λn2 l2 s' r N X V=>k _ _ _ _ _ _ N X V (bw.base X h)
 |exc k' H=>exact h
 |bad=>exact h
theorem bw.mono {o:du α}{Q1:β->Shared->Prop}(h:bw rel c m ac ah o Q E)(hq:∀r s,Q r s->Q1 r s):bw rel c m ac ah o Q1 E:=by
 cases o with
 |ok a H=>exact λn2 l2 s' r N X V=>hq _ _ (h n2 l2 s' r N X V)
 |exc k H=>exact h
 |bad=>exact h
end
structure CV where
 ot:List (Str×Nat)
 sc:Scope
noncomputable def gh (v:CV)(x:Str)(i:Nat):Bool:=v.ot.lookup x==some i&&(x !=("__debug__":Str))&&(x !=("__classdict__":Str))
noncomputable def eg (v:CV)(x:Str):Bool:=v.sc.names.lookup x==some .globalImplicit&&(x !=("__debug__":Str))
structure gQ (c:Cx)(v:CV)(env:Env)(l:cR)(m:Str->Option Value)(ac:ao)(ah:dN):Prop where
 loc:∀x i val,gh v x i=true->l[i]? =some (some val)->∀n' l',bq [] ac ah n' l'->∃rv,av n' l' val rv/\∀(H:HP) (s:Shared) A pos (Q:Value->Shared->Prop) (E:Value->Shared->Prop),aV c m n' l' H s->Q rv s->wpAny (model c.prog c.w) A (eval (.Name x pos) env) Q E s
 Nu:∀x rv,eg v x=true->nsIn c.K mainGlobals x=some (some rv)->∀n' l' (H:HP) (s:Shared) A pos (Q:Value->Shared->Prop) (E:Value->Shared->Prop),aV c m n' l' H s->Q rv s->wpAny (model c.prog c.w) A (eval (.Name x pos) env) Q E s
 VB:∀x rv,eg v x=true->nsIn c.K mainGlobals x=some none->bootBuiltins x=some rv->x≠ "__name__"->∀n' l' (H:HP) (s:Shared) A pos (Q:Value->Shared->Prop) (E:Value->Shared->Prop),aV c m n' l' H s->Q rv s->wpAny (model c.prog c.w) A (eval (.Name x pos) env) Q E s
theorem gQ.ext (e:gQ c v env l m ac ah)(x:bq [] ac ah n' l'):gQ c v env l m n' l' :=
 ⟨λy i val h1 h2 n2 l2 x2=>e.loc y i val h1 h2 n2 l2 (x.trans x2),e.Nu,e.VB⟩
noncomputable def GJ (S:lu):MK->Value
 | .fn f=> .ref (S.oG f)
 | .ng=> .builtin "list.append"| .pr=> .builtin "bytearray.append"| .pB=> .builtin "bytearray.extend"| .iV=> .builtin "dict.get"
section
variable {c:Cx}{d:Nat}{m:Str->Option Value}{ac:ao}{ah:dN}{H:HP}{s:Shared}{A:Around}{E:Value->Shared->Prop}
theorem lW (hn:aV c m ac ah H s){K:Type}[DecidableEq K]{knd:PySem.KeyKind c.prog c.w K}{kvs:List (K×Value)}{pl:Sem Bool}(hm:(a,o)∈ac)(h:o.IsDictOf knd kvs)(q:Q (.builtin "dict.get", [.ref a]) s):
  wpAny (model c.prog c.w) A (getMethod (.ref a) "get" pl) Q E s:=by
 have hd:=kQ hn hm h
 exact getMethod_builtin hd.typeIs PySem.F.plainAttrs_dict PySem.F.slot_dict_get PySem.F.type_dict_get hd.mapOf.noDict q
theorem Xh {p:Prop}[Decidable p]{α:Type}{x y:α}{P:Prop}(e:(if p then some x else none)=some y)(k:p->x=y->P):P:=by
 split at e
 ·exact k ‹_› (cq e)
 ·exact fe e
theorem Aq {P:PI}{k:MK}{C:Prop}(e:d6 P o n H=some k)(h:∀i so,o= .ref i->H[i]? =some so->(match so with
  | .inst c fs=>∃f,P.ma c n=some f/\fO n fs=none/\k= .fn f
  | .list _=>n=P.mc.append/\k= .ng
  | .cw _=>(n=P.mc.append/\k= .pr)∨(n=P.mc.extend/\k= .pB)
  |_=>n=P.mc.get/\k= .iV)->C):C:=by
 have D:∀{x:Nat} {y:MK},(if n=x then some y else none)=some k->n=x/\k=y:=λe=>Xh e λa b=>⟨a,b.symm⟩
 cases o with
 |ref i=>
  change (match H[i]? with
   |some (.inst c fs)=>match P.ma c n,fO n fs with
    |some f,none=>some (.fn f)
    |_,_=>none
   |some (.list _)=>if n=P.mc.append then some .ng else none
   |some (.cw _)=>if n=P.mc.append then some .pr else if n=P.mc.extend then some .pB else none
   |some .aM=>if n=P.mc.get then some .iV else none
   |some (.cg _)=>if n=P.mc.get then some .iV else none
   |some (.dB _)=>if n=P.mc.get then some .iV else none
   |none=>none)=some k at e
  cases hO:H[i]? with
  |none=>rw [hO] at e;exact fe e
  |some so=>
   rw [hO] at e
   refine h i so rfl hO ?_
   cases so with
   |inst c fs=>
    change (match P.ma c n,fO n fs with|some f,none=>some (MK.fn f)|_,_=>none)=some k at e
    cases h1:P.ma c n with
    |none=>rw [h1] at e;exact fe e
    |some f=>cases h2:fO n fs with
     |some _=>rw [h1,h2] at e;exact fe e
     |none=>rw [h1,h2] at e;exact ⟨f,h1,h2,(cq e).symm⟩
   |list _=>exact D e
   |cw _=>
    by_cases q:n=P.mc.append
    ·exact .inl ⟨q,(cq ((if_pos q).symm.trans e)).symm⟩
    ·exact .inr (D ((if_neg q).symm.trans e))
   |aM=>exact D e
   |cg _=>exact D e
   |dB _=>exact D e
 |_=>exact fe e
theorem BX (ok:c.Ok d)(hn:aV c m ac ah H s){k:MK}{pl:Sem Bool}(ho:av ac ah o ro)(e:d6 c.P o n H=some k)
  (q:Q (GJ c.S k, [ro]) s):wpAny (model c.prog c.w) A (getMethod ro (c.S.attr n) pl) Q E s:=by
 refine Aq e λi so eo hO hk=> ?_
 refine aZ (cL eo ho) λp gP hp=> ?_;subst gP
 refine hn.gE λg T F N=> ?_
 have DK:=ov (hn.hr.obj i so p hO hp)
 cases so with
 |inst cc fs=>
  refine mq hk λf h1 h2 wI=> ?_;clear hk;subst wI
  refine x7 DK λes nn hm hd hf hl=> ?_;clear DK
  obtain ⟨b1,b2⟩:=ok.mW.ma cc n f h1
  unfold lb at b1
  unfold rF at b2
  simp only [Bool.and_eq_true,beq_iff_eq] at b1 b2
  exact method_inst F (ok.pR T) (InstAt.of_news N hm hd) b1.1.2 b2.1.1 b2.1.2 (hf.miss ok.mW.inj h2) q
 |list vs=>
  obtain ⟨rfl,rfl⟩:=hk
  refine uy DK λu8 u8 hm u8=> ?_;clear DK
  rw [ok.mW.Ly]
  exact getMethod_append_N N hm q
 |cw b=>
  refine aZ DK λu8 hm u8=> ?_;clear DK
  rcases hk with ⟨rfl,rfl⟩|⟨rfl,rfl⟩
  ·rw [ok.mW.Ly]
   exact uP (N _ hm).1 me sj q
  ·rw [ok.mW.PW]
   exact uP (N _ hm).1 lV sA q
 |aM=>
  obtain ⟨rfl,rfl⟩:=hk
  refine mq DK λu8 hm u8 hd=> ?_;clear DK
  rw [ok.mW.IY]
  exact lW hn hm (hd _ (intKind c.prog c.w)) q
 |cg kvs=>
  obtain ⟨rfl,rfl⟩:=hk
  refine x7 DK λu8 u8 hm u8 hd u8=> ?_;clear DK
  rw [ok.mW.IY]
  exact lW hn hm hd q
 |dB kvs=>
  obtain ⟨rfl,rfl⟩:=hk
  refine x7 DK λu8 u8 hm u8 hd u8=> ?_;clear DK
  rw [ok.mW.IY]
  exact lW hn hm hd q
theorem qv (nd:(ac.map (·.1)).Nodup)(N:News g L h ac)(hm:(D,o)∈ac)(hs:Heap.SameBut D h h')(tz:h'.get? D=some o'):News g L h' (eQ D o' ac):=by
 refine x7 ((r8 nd hm).split) λpre post e1 e2 e3 e4=> ?_
 have:=(e1▸N:News g L h (pre++(D,o)::post)).setAt e3 e4 hs tz
 rw [e2];exact this
theorem CD (h:KBw.bInts dp=b)(h0:0<=i)(h1:i<256):KBw.bInts (dp.push i.toNat.toUInt8)=b++ [i]:=by
 rw [<-h,KBw.ints_list,KBw.ints_list,Array.toList_push,eG]
 show _++ [((i.toNat.toUInt8.toNat:Nat):Int)]=_
 rw [byte_back h0 h1]
theorem uo {R:au}{C:MK->SV->List SV->du SV->Prop}(bad:∀{k o as},C k o as .bad)(fn:∀f o as,C (.fn f) o as (R f (o::as) H))(la:∀r v vs,H[r]? =some (.list vs)->vs.length<big->C .ng (.ref r) [v] (.ok .none (H.set r (.list (vs++ [v])))))
  (ba:∀r i b,H[r]? =some (.cw b)->mx i=true/\b.length<big->C .pr (.ref r) [.int i] (.ok .none (H.set r (.cw (b++ [i]))))) (be:∀r x b,H[r]? =some (.cw b)->b.length+x.length<=big->C .pB (.ref r) [.bytes x] (.ok .none (H.set r (.cw (b++x)))))
  (dg:∀r k o x,H[r]? =some o->hZ k o=some x->C .iV (.ref r) [k] (.ok (x.getD .none) H)) (k:MK) (o:SV) (as:List SV):C k o as (dl R k o as H):=by
 have two:∀(v w:SV) (as:List SV) k,(∀f,k≠ .fn f)->C k o (v::w::as) (dl R k o (v::w::as) H):=λv w as k hk=>by
  cases k with
  |fn f=>exact absurd rfl (hk f)
  |ng=>cases o<;>exact bad
  |pr=>cases o<;>cases v<;>exact bad
  |pB=>cases o<;>cases v<;>exact bad
  |iV=>cases o<;>exact bad
 cases k with
 |fn f=>exact fn f o as
 |ng=>cases as with
  |nil=>cases o<;>exact bad
  |cons v as=>cases as with
   |cons w as=>exact two v w as _ nofun
   |nil=>cases o with
    |ref r=>
     show C _ _ _ (match H[r]? with|some (.list vs)=>if vs.length<big then .ok .none (H.set r (.list (vs++ [v]))) else .bad|_=> .bad)
     cases hO:H[r]? with
     |none=>exact bad
     |some o=>cases o with
      |list vs=>
       show C _ _ _ (if vs.length<big then .ok .none (H.set r (.list (vs++ [v]))) else .bad)
       split
       ·exact la r v vs hO ‹_›
       ·exact bad
      |_=>exact bad
    |_=>exact bad
 |pr=>cases as with
  |nil=>cases o<;>exact bad
  |cons v as=>cases as with
   |cons w as=>exact two v w as _ nofun
   |nil=>cases o with
    |ref r=>cases v with
     |int i=>
      show C _ _ _ (match H[r]? with|some (.cw b)=>if mx i=true/\b.length<big then .ok .none (H.set r (.cw (b++ [i]))) else .bad|_=> .bad)
      cases hO:H[r]? with
      |none=>exact bad
      |some o=>cases o with
       |cw b=>
        show C _ _ _ (if mx i=true/\b.length<big then .ok .none (H.set r (.cw (b++ [i]))) else .bad)
        split
        ·exact ba r i b hO ‹_›
        ·exact bad
       |_=>exact bad
     |_=>exact bad
    |_=>exact bad
 |pB=>cases as with
  |nil=>cases o<;>exact bad
  |cons v as=>cases as with
   |cons w as=>exact two v w as _ nofun
   |nil=>cases o with
    |ref r=>cases v with
     |bytes x=>
      show C _ _ _ (match H[r]? with|some (.cw b)=>if b.length+x.length<=big then .ok .none (H.set r (.cw (b++x))) else .bad|_=> .bad)
      cases hO:H[r]? with
      |none=>exact bad
      |some o=>cases o with
       |cw b=>
        show C _ _ _ (if b.length+x.length<=big then .ok .none (H.set r (.cw (b++x))) else .bad)
        split
        ·exact be r x b hO ‹_›
        ·exact bad
       |_=>exact bad
     |_=>exact bad
    |_=>exact bad
 |iV=>cases as with
  |nil=>cases o<;>exact bad
  |cons v as=>cases as with
   |cons w as=>exact two v w as _ nofun
   |nil=>cases o with
    |ref r=>
     show C _ _ _ (match H[r]? with
      |some o=>match hZ v o with
       |some x=> .ok (x.getD .none) H
       |none=> .bad
      |none=> .bad)
     cases hO:H[r]? with
     |none=>exact bad
     |some o=>
      show C _ _ _ (match hZ v o with
       |some x=> .ok (x.getD .none) H
       |none=> .bad)
      cases q:hZ v o with
      |none=>exact bad
      |some x=>exact dg r v o x hO q
    |_=>exact bad
section
variable {Q:Value->Shared->Prop}{r:Nat}{p:Nat×Nat}
theorem Mr (hn:aV c m ac ah H s)(hp:ah[r]? =some p)(hO:H[r]? =some (.list vs))(lO:vs.length<big)(hv:av ac ah v rv)(h:bw av c m ac ah (.ok .none (H.set r (.list (vs++ [v])))) Q E):wpAny (model c.prog c.w) A (call (.builtin "list.append") [.ref p.1,rv]) Q E s:=by
 refine hn.gE λg T F N=> ?_
 refine j8 (gk (hn.hr.obj r _ p hO hp)) λEE nn hm nG hl=> ?_
 refine append_at (N _ hm).1 (λh' hs tz=> ?_) (by have Xk:vs.length<4096:=lO;rw [List.size_toArray,eW,<-nG.length];exact lA ‹_› rfl)
 have Yg:h'.get? p.1=some (listOf (EE++ [rv]).toArray (nn+1)):=by rw [tz];simp
 have X:bq [] ac ah (eQ p.1 (listOf (EE++ [rv]).toArray (nn+1)) ac) ah:=bq.rep hn.nd hm rfl rfl
 exact h _ _ {s with heap:=h' } .none (hn.turn (t:=s.toks) T (F.change hs (N _ hm).2.1 (N _ hm).2.2) (qv hn.nd N hm hs Yg) hp (.inl rfl) hm rfl rfl (.list (dE hm) ((nG.append (.cons hv .nil)).ext X) (by rw [aL,List.length_singleton];exact lO))) X .none
theorem FO (hn:aV c m ac ah H s){b b' :By}(hp:ah[r]? =some p)(hm:(p.1,eL dp)∈ac)(hb:KBw.bInts Pw=b')(hl:b'.length<=big)(hs:Heap.SameBut p.1 s.heap h')(tz:h'.get? p.1=some (eL Pw))(h:bw av c m ac ah (.ok .none (H.set r (.cw b'))) Q E):Q .none {s with heap:=h' }:=by
 refine hn.gE λg T F N=> ?_
 exact h _ _ {s with heap:=h' } .none (hn.turn (t:=s.toks) T (F.change hs (N _ hm).2.1 (N _ hm).2.2) (qv hn.nd N hm hs tz) hp (.inl rfl) hm rfl rfl (.cw (dE hm) hb hl)) (bq.rep hn.nd hm rfl rfl) .none
theorem Lq (hg:A.guards=some [])(hn:aV c m ac ah H s)(hp:ah[r]? =some p)(hO:H[r]? =some (.cw b))(lO:mx i=true/\b.length<big)(h:bw av c m ac ah (.ok .none (H.set r (.cw (b++ [i])))) Q E):aG (model c.prog c.w) A (call (.builtin "bytearray.append") [.ref p.1, .int i t]) Q E s:=by
 refine mq (ov (hn.hr.obj r _ p hO hp)) λdp hm hb hl=> ?_
 have N:=hn.addr hm
 have hz:0<=i/\i<256:=by
  have:=lO.1
  unfold mx at this
  simpa using this
 have wV:dp.size=b.length:=by rw [<-KBw.ints_length,hb]
 have Oz:b.length<4096:=lO.2
 refine CJ hg N hz.1 hz.2 (by rw [eW];lia) λh' hs tz=>FO hn (b:=b) hp hm (CD hb.symm hz.1 hz.2) (by rw [aL,List.length_singleton];exact lO.2) hs tz h
theorem Lu (hg:A.guards=some [])(hn:aV c m ac ah H s)(hp:ah[r]? =some p)(hO:H[r]? =some (.cw b))(lO:b.length+(KBw.bInts cc).length<=big)(h:bw av c m ac ah (.ok .none (H.set r (.cw (b++KBw.bInts cc)))) Q E):aG (model c.prog c.w) A (call (.builtin "bytearray.extend") [.ref p.1, .bytes cc t]) Q E s:=by
 refine mq (ov (hn.hr.obj r _ p hO hp)) λdp hm hb hl=> ?_
 have N:=hn.addr hm
 have Oz:b.length+(KBw.bInts cc).length<=4096:=lO
 rw [hb,KBw.ints_length,KBw.ints_length] at Oz
 refine CY hg N (by rw [Array.size_append,eW];exact lA ‹_› rfl) λh' hs tz=>FO hn (b:=b) hp hm (KBw.ints_app hb.symm rfl) (by rw [aL];exact lO) hs tz h
theorem L4 (hn:aV c m ac ah H s)(hp:ah[r]? =some p)(hO:H[r]? =some o)(hk:av ac ah k rk)(q:hZ k o=some x)(h:bw av c m ac ah (.ok (x.getD .none) H) Q E):wpAny (model c.prog c.w) A (call (.builtin "dict.get") [.ref p.1,rk]) Q E s:=by
 obtain ⟨lo,Fp,LB,Gd⟩:=ua hn hp hO hk q
 refine call_meetsIn PySem.F.slot_dict_get Fp.typeIs PySem.F.entry_dict_get (PySem.F.args_dict_get_2 _ _) (meets_dict_get _ _ LB lo) ⟨_,Fp.mapOf, ?_⟩
 rcases Gd with ⟨rfl,z2⟩|⟨v',r,rfl,z2,z3⟩
 ·rw [z2]
  exact h _ _ {s with toks:=s.toks+1} .none (hn.toks _) bq.refl .none
 ·rw [z2]
  exact h _ _ {s with toks:=s.toks+1} r (hn.toks _) bq.refl z3
end
theorem oX (ok:c.Ok d)(hg:A.guards=some [])(hn:aV c m ac ah H s){R:au}{k:MK}(hk:∀f,k≠ .fn f)(ho:av ac ah o ro)(has:aH ac ah as rs)
  (h:bw av c m ac ah (dl R k o as H) Q E):aG (model c.prog c.w) A (call (GJ c.S k) (ro::rs)) Q E s:=by
 refine uo (R:=R) (C:=λk o as z=>(∀f,k≠ .fn f)->av ac ah o ro->aH ac ah as rs->bw av c m ac ah z Q E->aG (model c.prog c.w) A (call (GJ c.S k) (ro::rs)) Q E s) (λu8 u8 u8 h=>h.elim) (λf u8 u8 hk=>absurd rfl (hk f))
  (λr v vs hO hl u8 ho has h=> ?_) (λr i b hO hl u8 ho has h=> ?_) (λr x b hO hl u8 ho has h=> ?_) (λr k o x hO hx u8 ho has h=> ?_) k o as hk ho has h
 ·refine aZ (cL rfl ho) λu8 gP hp=> ?_;subst gP
  refine aZ (qz has) λu8 gP hv=> ?_;subst gP
  exact ap (Mr hn hp hO hl hv h)
 ·refine aZ (cL rfl ho) λu8 gP hp=> ?_;subst gP
  refine aZ (qz has) λu8 gP hv=> ?_;subst gP
  obtain ⟨_,rfl⟩:=aR hv
  exact Lq hg hn hp hO hl h
 ·refine aZ (cL rfl ho) λu8 gP hp=> ?_;subst gP
  refine aZ (qz has) λu8 gP hv=> ?_;subst gP
  refine j8 (bh hv) λu8 u8 dc wI u8=> ?_;subst dc;subst wI
  exact Lu hg hn hp hO hl h
 ·refine aZ (cL rfl ho) λu8 gP hp=> ?_;subst gP
  refine aZ (qz has) λu8 gP hv=> ?_;subst gP
  exact ap (L4 hn hp hO hv hx h)
end
structure lN (c:Cx)(n k:Nat)(A:Around):Prop where
 frames:A.frames=some (c.env::c.outer)
 hand:A.handled=none
 guards:A.guards=some []
 GF:1<=A.depth
 Ey:3<=A.units
 depth:A.depth+10*n+k<=400
 units:A.units+100*n+k<=4000
theorem lN.le (h:lN c n k A)(e:k' <=k):lN c n k' A:=⟨h.frames,h.hand,h.guards,h.GF,h.Ey,by have:=h.depth;lia,by have:=h.units;lia⟩
theorem lN.make (h:lN c n (k+1) A)(C:Addr)(aI:List Value)(kw:List (Str×Value)):lN c n k (A.under (.builtin "type.__call__" ⟨.ref C::aI,kw⟩)):=by
 have e0:(Code.builtin "type.__call__" ⟨.ref C::aI,kw⟩).isGuard=false:=by
  show guardIds.contains "type.__call__"=false
  decide+kernel
 have w:(Code.builtin "type.__call__" ⟨.ref C::aI,kw⟩).weight=1:=by
  unfold Code.weight
  rw [e0]
  rfl
 have g:(Code.builtin "type.__call__" ⟨.ref C::aI,kw⟩).guards= []:=by
  unfold Code.guards
  rw [e0]
  rfl
 refine ⟨?_,h.hand, ?_, ?_, ?_, ?_, ?_⟩
 ·unfold Around.under
  rw [h.frames];rfl
 ·unfold Around.under
  rw [g,h.guards];rfl
 ·exact cy h.GF (gR _ _)
 ·exact cy h.Ey (gR _ _)
 ·show A.depth+(Code.builtin "type.__call__" ⟨.ref C::aI,kw⟩).weight+10*n+k<=400
  rw [w]
  have:=h.depth
  lia
 ·show A.units+1+100*n+k<=4000
  have:=h.units
  lia
noncomputable def Oa (Q:Value->Shared->Prop)(E:Value->Shared->Prop):Result->Shared->Prop:=λr s' =>match r with
 | .ok (.ret v)=>Q v s'
 | .ok _=>False
 | .error e=>E e s'
noncomputable def d8 (c:Cx)(n:Nat)(R:au):Prop:=∀A,lN c n 0 A->∀f as H m ac ah s rs Q E,aV c m ac ah H s->aH ac ah as rs->bw av c m ac ah (R f as H) Q E->
 fh (model c.prog c.w) A (.call (.ref (c.S.oG f)) ⟨rs, []⟩) (Oa Q E) s
section
variable {c:Cx}{d n k:Nat}{m:Str->Option Value}{ac:ao}{ah:dN}{H:HP}{s:Shared}{A:Around}{E:Value->Shared->Prop}
theorem C2:eC v a H≠ .exc j H' :=by
 intro h;unfold eC at h;(repeat' split at h)<;>cases h
theorem mH:(du.bad:du SV)≠ .exc j H' :=nofun
theorem eS:du.ok x H≠ .exc j H' :=nofun
theorem A0 {p:Prop}[Decidable p]:(if p then du.ok x H else .bad)≠ .exc j H' :=by split<;>nofun
theorem Ks {vs:List SV}:(match cP i vs.length,vs[cu i vs.length]? with|true,some v=>du.ok v H|_,_=> .bad)≠ .exc j H' :=by
 cases cP i vs.length with
 |false=>exact mH
 |true=>cases vs[cu i vs.length]? with
  |none=>exact mH
  |some _=>exact eS
theorem FR {v i:SV}{H H' :HP}{j:Nat}:dH v i H≠ .exc j H' :=uT (C:=λu8 u8 z=>z≠ .exc j H') mH (λu8 u8=>A0) (λu8 u8=>Ks) (λu8 u8 u8 u8=>Ks) (λu8 u8 u8 u8 u8 u8=>eS) v i
theorem zJ:f8 v a b H≠ .exc j H' :=slice_cases (C:=λu8 u8 u8 z=>z≠ .exc j H') mH (λu8 u8 u8 u8 u8=>eS) (λu8 u8 u8 u8=>eS) (λu8 u8 u8 u8 u8 u8 u8=>eS) v a b
theorem Ga:cF op a b H≠ .exc j H' :=u7 (C:=λu8 u8 u8 z=>z≠ .exc j H') mH (λop u8 u8=>by cases op<;>first|exact eS|exact A0) (λu8 u8=>A0) (λu8 u8 u8 u8 u8 u8=>A0) op a b
theorem DM:yp b v H≠ .exc j H' :=qQ (C:=λu8 u8 z=>z≠ .exc j H') mH (λu8=>eS) (λu8=>eS) (λu8 u8 u8=>eS) (λu8=>eS) (λu8 u8 u8=>eS) (λu8 u8 u8=>eS) (λu8 u8 u8 u8 u8 u8=>eS) (λu8 u8=>eS) (λu8 u8 u8=>eS) (λu8 u8=>eS) (λu8 u8 u8=>eS) (λu8 u8=>eS) (λu8 u8 u8 u8 u8 u8=>eS) (λu8 u8 u8 u8=>eS) (λu8 u8=>eS) (λu8 u8 u8 u8 u8=>eS) b v
theorem FF:x6 b v w H≠ .exc j H' :=qM (C:=λu8 u8 u8 z=>z≠ .exc j H') mH (λu8 u8 u8=>eS) (λu8 u8=>eS) b v w
theorem EF:bH b as H≠ .exc j H' :=q9 (C:=λu8 u8 z=>z≠ .exc j H') mH eS (λu8 u8=>DM) (λu8 u8 u8=>FF) b as
theorem Kt (ok:c.Ok d)(hn:aV c m ac ah H s)(hv:av ac ah v rv)(h:bw av c m ac ah (eC v a H) Q E):aG (model c.prog c.w) A (getAttr rv (c.S.attr a) true) Q E s:=by
 cases e:eC v a H with
 |ok x H' =>rw [e] at h;exact ap (IV ok hn hv e λrx t hx hH=>by subst hH;exact h _ _ _ _ (hn.toks t) bq.refl hx)
 |exc j H' =>exact (C2 e).elim
 |bad=>rw [e] at h;exact h.elim
theorem SC (ok:c.Ok d)(hn:aV c m ac ah H s){value slice:Expr}(hs:stop slice=false)(ho:av ac ah o ro)(hi:av ac ah i ri)(h:bw av c m ac ah (dH o i H) Q E):
  aG (model c.prog c.w) A (subscriptTail value slice ro ri) Q E s:=by
 cases e:dH o i H with
 |ok x H' =>rw [e] at h;exact ap (GW ok hn hs ho hi e λrx t hx hH=>by subst hH;exact h _ _ _ _ (hn.toks t) bq.refl hx)
 |exc j H' =>exact (FR e).elim
 |bad=>rw [e] at h;exact h.elim
theorem RI (ok:c.Ok d)(hn:aV c m ac ah H s)(ha:av ac ah a ra)(hb:av ac ah b rb)(h:bw av c m ac ah (cF op a b H) Q E):aG (model c.prog c.w) A (binaryOp (lK op) ra rb) Q E s:=by
 cases e:cF op a b H with
 |ok x H' =>rw [e] at h;exact ap (FJ ok hn ha hb e h)
 |exc j H' =>exact (Ga e).elim
 |bad=>rw [e] at h;exact h.elim
theorem Mk (ok:c.Ok d)(hn:aV c m ac ah H s)(ho:av ac ah o ro)(ha:av ac ah a ra)(hb:av ac ah b rb)(h:bw av c m ac ah (f8 o a b H) Q E):
  aG (model c.prog c.w) A (subscriptTail value (.Slice lower upper none p) ro (.ref s.heap.objs.size)) Q E {s with heap:=s.heap.push {cls:= .type "slice",data:= .fields #[ra,rb, .none]}}:=by
 cases e:f8 o a b H with
 |ok x H' =>rw [e] at h;exact ap (Ff ok hn ho ha hb e h)
 |exc j H' =>exact (zJ e).elim
 |bad=>rw [e] at h;exact h.elim
theorem Mb (ok:c.Ok d)(hA:lN c n k A)(hn:aV c m ac ah H s)(has:aH ac ah as rs)(h:bw av c m ac ah (bH b as H) Q E):aG (model c.prog c.w) A (call (fk b) rs) Q E s:=by
 cases e:bH b as H with
 |ok x H' =>rw [e] at h;exact D7 ok hA.hand hA.guards hn has e h
 |exc j H' =>exact (EF e).elim
 |bad=>rw [e] at h;exact h.elim
theorem N6 (hA:lN c n k A)(hn:aV c m ac ah H s){f:Bool->HP->du SV}(ha:av ac ah a ra)(hb:av ac ah b rb)(h:bw av c m ac ah ((ff (bU op a b H) H).bind λr H=> .ok (.bool r) H) Q E):
  aG (model c.prog c.w) A (compareOp (sr op) ra rb) Q E s:=by
 cases e:bU op a b H with
 |some r=>rw [e] at h;exact ap (EJ hn (by have:=hA.units;lia) ha hb e λt=>h _ _ _ _ (hn.toks t) bq.refl (.bool r))
 |none=>rw [e] at h;exact h.elim
theorem vT (hn:aV c m ac ah H s)(ha:av ac ah a ra)(h:bw xV c m ac ah (ff (eP a H) H) Q E):aG (model c.prog c.w) A (truthy ra) Q E s:=by
 cases e:eP a H with
 |some r=>rw [e] at h;exact ap (vq hn ha e λt=>h _ _ _ _ (hn.toks t) bq.refl rfl)
 |none=>rw [e] at h;exact h.elim
theorem Fg (hn:aV c m ac ah H s)(hv:aH ac ah vs rs)(hl:vs.length<=big)(h:bw av c m ac ah (.ok (.tuple vs) H) Q E):aG (model c.prog c.w) A (newTuple rs) Q E s:=by
 refine hn.gE λg T F N=> ?_
 have wH:big=4096:=rfl
 refine ap (newTuple_N F N (λh' F' N' => ?_) (by rw [<-hv.length,eW];exact lA ‹_› rfl))
 refine rB (kt (t:=s.toks) hn T F' N' hn.lt hv hl) λa1 a2 a3=> ?_
 exact h _ _ _ _ a1 a2 a3
theorem Ol (hn:aV c m ac ah H s)(hv:aH ac ah vs rs)(hl:vs.length<=big)(h:bw av c m ac ah (.ok (.ref H.length) (H++ [.list vs])) Q E):aG (model c.prog c.w) A (newList rs) Q E s:=by
 refine hn.gE λg T F N=> ?_
 have wH:big=4096:=rfl
 refine ap (newList_N F N (λh' F' N' => ?_) (by rw [<-hv.length,eW];exact lA ‹_› rfl))
 refine rB (jv (n:=0) (t:=s.toks) hn T F' N' hn.lt hv hl) λa1 a2 a3=> ?_
 exact h _ _ _ _ a1 a2 a3
theorem sd {K:Type}[DecidableEq K](knd:PySem.KeyKind prog w K):(dictOf [] 0).IsDictOf knd []:=by
 refine aZ (Heap.dictOf_iff.mp (Heap.DictOf.new (knd:=knd) ({}:Heap))) λo ho hd=> ?_
 rw [Heap.get?_push_size _ rfl] at ho
 cases ho;exact hd
theorem GN (hn:aV c m ac ah H s){t:Nat}(T:KtsTurn c.fs c.g₀ g)(F:Fr g c.L h' m)(N:News g c.L h' ((D,dictOf [] 0)::ac))(lt:∀q∈ac,q.1<D)(hD:(D==sysModules)=false):
  aV c m ((D,dictOf [] 0)::ac) (ah++ [(D,D)]) (H++ [.aM]) {s with heap:=h',toks:=t}/\bq [] ac ah ((D,dictOf [] 0)::ac) (ah++ [(D,D)])/\av ((D,dictOf [] 0)::ac) (ah++ [(D,D)]) (.ref H.length) (.ref D):=
 have X:bq [] ac ah ((D,dictOf [] 0)::ac) (ah++ [(D,D)]):=bq.app _ _
 ⟨hn.new T F N lt (.aM (.head _) hD λK u8 knd=>sd knd),X,sb hn⟩
theorem Lk (ok:c.Ok d)(hn:aV c m ac ah H s)(h:bw av c m ac ah (.ok (.ref H.length) (H++ [.aM])) Q E):aG (model c.prog c.w) A (eval (.Dict [] [] pos) env) Q E s:=by
 refine hn.gE λg T F N=> ?_
 refine ap (show wpAny (model c.prog c.w) A (do standAt pos;newDict) Q E s from ar (wpAny_standAt ?_))
 refine rB (GN (t:=s.toks) hn T (F.push _) (N.push F (dictOf [] 0)) hn.lt (F.notModules (modules_low ((ok.top.keeps (ok.stays T)).nolimit)))) λa1 a2 a3=> ?_
 exact wpAny_newObj_type (h _ _ _ _ a1 a2 a3)
end
section
variable {α:Type}{M:Model}{A:Around}{E:Value->Shared->Prop}{s:Shared}
theorem uQ {β:Type}{t:Sem β}{r:β}{f:β->Sem α}{Q:α->Shared->Prop}(x:Looks M s.heap t r)(q:aG M A (f r) Q E s):aG M A (t>>=f) Q E s:=
 ag (ap (x.here q))
theorem Qs {c:Prop}[Decidable c]{a b:Sem α}{Q:α->Shared->Prop}(hc:¬c)(h:aG M A b Q E s):aG M A (if c then a else b) Q E s:=by rw [if_neg hc];exact h
end
section
variable {prog:Program}{w:World}{A:Around}{K:Frag}{C:Addr}{R:Result->Shared->Prop}{h:Heap}{g:Array GenState}{d:Drawn}{t:Nat}{os:OsState}
theorem rc {R:Result->Shared->Prop}(hq:c.quiet=true)(hc:tU c=true)(h:fh (model prog w) A c R s):MT (model prog w) A R (.again c) s:=⟨hq,hc,h⟩
set_option maxHeartbeats 4000000 in
theorem zv (Y:Makes (model prog w) h C)(hi:Looks (model prog w) h (typeLookup (.ref C) "__init__") (some init))
  (hb:∀self,Looks (model prog w) h (bindSpecial init self) (init, [self])) (lG:(some init !=some (Value.builtin "object.__init__"))=true)
  (hq:fh (model prog w) (A.under (.builtin "type.__call__" ⟨.ref C::aI, []⟩)) (.call init ⟨.ref (h.objs.size+1)::aI, []⟩) (InitBack (h.objs.size+1) R) ⟨(h.push emptyDict).push (instObj C h.objs.size),g,d,t,os⟩):
  fh (model prog w) A (.call (.ref C) ⟨aI, []⟩) R ⟨h,g,d,t,os⟩:=by
 have Y' :=Y
 obtain ⟨⟨oc,od,cd,sl,hC,e1,e2,e4⟩,made,base,self,top,call,typ⟩:=Y
 have hm:Looks (model prog w) h (mroOf (.ref C)) cd.mro:=((Looks.ld (part:=none) hC).andThen .now).andThen .now
 refine d5 ?_
 show aG _ _ (callAny (.ref C) ⟨aI, []⟩) _ _ _
 refine ag (ap (wpAny_load hC ?_))
 show aG _ _ (callAny.viaDunder (.ref C) _) _ _ _
 unfold callAny.viaDunder
 refine uQ call ?_
 dsimp only
 rw [tc_bind]
 refine ag (aq ?_)
 refine ag (m:=callAny.plainCallee (.builtin "type.__call__")) (aq ?_)
 refine aq (a:=Fin.again (.call (.builtin "type.__call__") ⟨.ref C::aI, []⟩)) (rc rfl rfl ?_)
 refine d5 ?_
 show aG _ A.in1 (do checkBuiltinCall "type.__call__" ⟨.ref C::aI, []⟩;again (.builtin "type.__call__" ⟨.ref C::aI, []⟩)) _ _ _
 refine ag (ap (@check_slot _ _ _ _ _ _ _ _ _ _ _ tc_kind tc_split typ (tc_args _ _ _) ?_))
 refine aq (rc (Code.quiet_builtin _ (by decide+kernel)) (by show (!(Builtin.Bytes.decodersThatHold.contains "type.__call__"))=true;decide+kernel) (jY entry_typeCall ?_))
 show aG _ _ (mroOf (.ref C)>>=_) _ _ _
 refine uQ hm ?_
 refine Qs (by rw [e4];decide) ?_
 refine uQ made ?_
 refine ag (aq ?_)
 refine ag (aD (ap (wpAny_call (new_K Y' hi (.inl lG) ?_))))
 have k:∀b o,h.get? b=some o->((h.push emptyDict).push (instObj C h.objs.size)).get? b=some o:=λb o e=>fI _ (fI _ e)
 have hx:((h.push emptyDict).push (instObj C h.objs.size)).get? (h.objs.size+1)=some (instObj C h.objs.size):=by heap_get
 have t1:Looks (model prog w) ((h.push emptyDict).push (instObj C h.objs.size)) (typeOf (.ref (h.objs.size+1))) (.ref C):=(Looks.ld hx).andThen .now
 have s1:=self.keeps k
 have i1:=hi.keeps k
 have b1:=(hb (.ref (h.objs.size+1))).keeps k
 have u1:Looks (model prog w) ((h.push emptyDict).push (instObj C h.objs.size)) (isInstance (.ref (h.objs.size+1)) (.ref C)) true:=t1.andThen s1
 have v1:Looks (model prog w) ((h.push emptyDict).push (instObj C h.objs.size)) (specialOf (.ref (h.objs.size+1)) "__init__") (some init):=t1.andThen i1
 refine uQ u1 ?_
 refine Qs (by simp) ?_
 refine ag (aD ?_)
 unfold callSpecial?
 refine uQ v1 ?_
 refine aD ?_
 refine uQ b1 ?_
 refine ag (jn (n6 hq λr s' z=> ?_))
 rcases r with e|(v|_|_|_)<;>first|exact z|exact z.elim|skip
 obtain ⟨rfl,z⟩:=z
 exact aq (aq z)
end
section
variable {c:Cx}{d n k:Nat}{m:Str->Option Value}{ac:ao}{ah:dN}{H:HP}{s:Shared}{A:Around}{E:Value->Shared->Prop}
set_option tactic.hygienic true in
theorem PQ (ok:c.Ok d){R:au}(RS:d8 c n R)(hA:lN c n (k+1) A)(hn:aV c m ac ah H s)(has:aH ac ah as rs)(h:bw av c m ac ah (kP c.P R cc as H) Q E):
  aG (model c.prog c.w) A (call (.ref (c.S.dF cc)) rs) Q E s:=by
 unfold kP at h
 split at h
 ·rename_i f hf
  refine SD (ok.mW.init cc f hf) λb1 b2 b3 b4=> ?_
  unfold lb at b1
  simp only [Bool.and_eq_true,beq_iff_eq] at b1
  refine hn.gE λg T F N=> ?_
  refine jn ?_
  have X:=(ok.pR T).keeps F.keep
  have Yy:typeIn c.K (.ref (c.S.oG f))=some (.type "function"):=by
   unfold isFn at b4
   exact beq_iff_eq.mp b4
  obtain ⟨hh,gg,dd,tt,os⟩:=s
  refine zv (makes_of X b1.2) (looks_findIn X b3) (λself=>bind_fn X self Yy) rfl ?_
  have N' :=(N.push F emptyDict).push (F.push _) (instObj (c.S.dF cc) hh.objs.size)
  rw [Heap.size_push] at N'
  have F' :=(F.push emptyDict).push (instObj (c.S.dF cc) hh.objs.size)
  have lt:∀q∈ac,q.1<hh.objs.size:=hn.lt
  have je:aV c m ((hh.objs.size+1,instObj (c.S.dF cc) hh.objs.size)::(hh.objs.size,dictOf [] 0)::ac) (ah++ [(hh.objs.size+1,hh.objs.size)]) (H++ [.inst cc []]) ⟨(hh.push emptyDict).push (instObj (c.S.dF cc) hh.objs.size),gg,dd,tt,os⟩:=
   ⟨⟨g,T,F',N'⟩,rR (rR hn.nd lt) (λq hq=>by
    rcases cH hq with rfl|hq
    ·exact Nat.lt_succ_self _
    ·exact Nat.lt_succ_of_lt (lt q hq)),hn.hr.IP lt (Nat.lt_succ_self _),λy a e=>let ⟨o,v,h1,h2⟩:=hn.cells y a e;⟨o,v, .tail _ (.tail _ h1),h2⟩,hn.sh⟩
  have X' :bq [] ac ah ((hh.objs.size+1,instObj (c.S.dF cc) hh.objs.size)::(hh.objs.size,dictOf [] 0)::ac) (ah++ [(hh.objs.size+1,hh.objs.size)]):=⟨⟨_,rfl⟩,λu8 hp u8=> .tail _ (.tail _ hp),λu8 hp u8 u8=> .tail _ (.tail _ hp)⟩
  have self:av ((hh.objs.size+1,instObj (c.S.dF cc) hh.objs.size)::(hh.objs.size,dictOf [] 0)::ac) (ah++ [(hh.objs.size+1,hh.objs.size)]) (.ref H.length) (.ref (hh.objs.size+1)):=
   .ref (p:=(hh.objs.size+1,hh.objs.size)) (by rw [<-hn.hr.len,eJ (bS _)];simp)
  refine n6 (RS _ ((hA.make _ _ _).le (Nat.zero_le _)) f (.ref H.length::as) _ m _ _ _ _ (λv s' =>v= .none/\Q (.ref (hh.objs.size+1)) s') E je (.cons self (has.ext X')) (bw.bind (bw.base X' h) λx H1 n1 l1 s1 rx cN X1 v1 h1=> ?_)) λr s' z=> ?_
  ·cases v1 with
   |none=>exact ⟨rfl,h1 _ _ _ _ cN bq.refl (self.ext X1)⟩
   |_=>exact h1.elim
  ·rcases r with e|(v|_|_|_)
   ·exact z
   ·exact z.elim
   ·exact z.elim
   ·exact z.elim
   ·exact z
 ·exact h.elim
theorem NI (X:c.K.In s.heap)(h:keepIn c.K f=true):∃k,(k=Keeper.frame∨k=Keeper.machine∨k=Keeper.boundFrame)/\Looks (model c.prog c.w) s.heap (keeperOf f) k:=keeps_K h _ X
theorem Gs (b:Bi):∃k,(k=Keeper.frame∨k=Keeper.machine∨k=Keeper.boundFrame)/\Looks M h (keeperOf (fk b)) k:=
 ⟨.machine, .inr (.inl rfl),by cases b<;>exact Looks.of_pure rfl⟩
theorem hJ (i:String):∃k,(k=Keeper.frame∨k=Keeper.machine∨k=Keeper.boundFrame)/\Looks M h (keeperOf (.builtin i)) k:=
 ⟨.machine, .inr (.inl rfl),Looks.of_pure rfl⟩
end
inductive TE:List Expr->nH->Prop where
 |nil:TE [] .nil
 |cons (x xs e es):TE (x::xs) (.cons e es)
structure Sh (xs:List Expr)(es:nH):Prop where
 star:xs.all (λe=> !stop e)=true
 len:∀{P:PI} {R:au} {l:cR} {vs:List SV} {H H' :HP},dK P R es l H= .ok vs H'->vs.length=xs.length
 k:TE xs es
theorem Sh.nil:Sh [] .nil:=⟨rfl,λe=>by cases e;rfl, .nil⟩
theorem A2 {α β:Type}{o:du α}{f:α->HP->du β}{b:β}(h:o.bind f= .ok b H'){C:Prop}(k:∀a H,o= .ok a H->f a H= .ok b H'->C):C:=by
 cases o with
 |ok a H=>exact k a H rfl h
 |exc _ _=>cases h
 |bad=>cases h
theorem Sh.cons (h1:stop x=false)(h:Sh xs es):Sh (x::xs) (.cons e es):=
 ⟨by rw [List.all_cons,h1,h.star];rfl,λ{P R l vs H H'} q=>by
  refine A2 (show (bj P R e l H).bind (λv H=>(dK P R es l H).bind λvs H=> .ok (v::vs) H)= .ok vs H' from q) λy H1 u8 q=>A2 q λys H2 q2 q=> ?_
  cases q
  exact congrArg (·+1) (h.len q2), .cons ..⟩
section
variable {c:Cx}{d n k:Nat}{R:au}{v:CV}{env:Env}
structure SX (c:Cx)(d n k:Nat)(R:au)(A:Around):Prop where
 ok:c.Ok d
 RS:d8 c n R
 hA:lN c n (k+1) A
noncomputable abbrev lH (c:Cx)(n k:Nat)(R:au)(v:CV)(env:Env)(x:Expr)(e:SE):Prop:=
 ∀{A:Around} {l:cR} {m:Str->Option Value} {ac:ao} {ah:dN} {H:HP} {s:Shared} {Q:Value->Shared->Prop} {E:Value->Shared->Prop},lN c n (k+1) A->gQ c v env l m ac ah->aV c m ac ah H s->
  bw av c m ac ah (bj c.P R e l H) Q E->aG (model c.prog c.w) A (eval x env) Q E s
noncomputable abbrev uF (c:Cx)(n k:Nat)(R:au)(v:CV)(env:Env)(xs:List Expr)(es:nH):Prop:=
 ∀{A:Around} {l:cR} {m:Str->Option Value} {ac:ao} {ah:dN} {H:HP} {s:Shared} {pos:Pos} {Q:List Value->Shared->Prop} {E:Value->Shared->Prop},lN c n (k+1) A->gQ c v env l m ac ah->aV c m ac ah H s->
  bw aH c m ac ah (dK c.P R es l H) Q E->aG (model c.prog c.w) A (spliced (backTo pos (starEach xs env))) Q E s
noncomputable abbrev HQ (c:Cx)(n k:Nat)(R:au)(v:CV)(env:Env)(x:Expr)(e:SE):Prop:=
 ∀{A:Around} {l:cR} {m:Str->Option Value} {ac:ao} {ah:dN} {H:HP} {s:Shared} {Q:Bool->Shared->Prop} {E:Value->Shared->Prop},lN c n (k+1) A->gQ c v env l m ac ah->aV c m ac ah H s->
  bw xV c m ac ah (gK c.P R e l H) Q E->aG (model c.prog c.w) A (isTrue x env (eval x env)) Q E s
theorem zA (hc:Sh xs es)(ih:uF c n k R v env xs es)
  (hA:lN c n (k+1) A) (he:gQ c v env l m ac ah) (hn:aV c m ac ah H s)
  (ve:∀(Q:Value->Shared->Prop),Q fv s->wpAny (model c.prog c.w) A (eval (.Name x p) env) Q E s)
  (N9:∀n1 l1 H1 s1 vs rs,aV c m n1 l1 H1 s1->aH n1 l1 vs rs->bw av c m n1 l1 (f vs H1) Q E->
   (∃k,(k=Keeper.frame∨k=Keeper.machine∨k=Keeper.boundFrame)/\Looks (model c.prog c.w) s1.heap (keeperOf fv) k)/\aG (model c.prog c.w) A (call fv rs) Q E s1)
  (h:bw av c m ac ah ((dK c.P R es l H).bind f) Q E):aG (model c.prog c.w) A (eval (.Call (.Name x p) xs [] pos) env) Q E s:=by
 refine vj (ap (ve _ ?_))
 refine pT (gz xs pos hc.star).1 (ih hA he hn (bw.bind h λvs H1 n1 l1 s1 rs cN X1 v1 h1=>N9 _ _ _ _ _ _ cN v1 h1))
theorem rS (ok:c.Ok d)(h:keepIn c.K fv=true):∀n1 l1 H1 s1,aV c m n1 l1 H1 s1->∃k,(k=Keeper.frame∨k=Keeper.machine∨k=Keeper.boundFrame)/\Looks (model c.prog c.w) s1.heap (keeperOf fv) k:=
 λn1 l1 H1 s1 hn=>by
  refine hn.gE λg T F N=> ?_
  exact keeps_K h _ ((ok.pR T).keeps F.keep)
set_option tactic.hygienic true in
theorem Lr (ok:c.Ok d)(RS:d8 c n R)(h1:jV o' =true)(h2:xs.length<30)(h3:(apos.endLine==pos.line)=true)(hc:Sh xs es)
  (io:lH c n k R v env o' o) (ih:uF c n k R v env xs es)
  (hA:lN c n (k+1) A) (he:gQ c v env l m ac ah) (hn:aV c m ac ah H s)
  (h:bw av c m ac ah ((bj c.P R o l H).bind λv H=>(ff (d6 c.P v mn H) H).bind λk H=>(dK c.P R es l H).bind λvs H=>dl R k v vs H) Q E):
  aG (model c.prog c.w) A (eval (.Call (.Attribute o' (c.S.attr mn) apos) xs [] pos) env) Q E s:=by
 refine QF h1 hc.star h2 h3 (io hA he hn (bw.bind h λov H1 n1 l1 s1 ro cN X1 v1 h1 pl=> ?_))
 cases q:d6 c.P ov mn H1 with
 |none=>rw [q] at h1;exact h1.elim
 |some mk=>
  rw [q] at h1
  refine ap (BX ok cN v1 q ?_)
  refine pT (gz xs pos hc.star).1 (ih hA (he.ext X1) cN (bw.bind (show bw av c m n1 l1 ((dK c.P R es l H1).bind λvs H=>dl R mk ov vs H) Q E from h1) λvs H2 n2 l2 s2 rs fK X2 v2 h2=> ?_))
  have vo:=v1.ext X2
  cases mk with
  |fn f=>
   refine ⟨?_,jn (RS A (hA.le (Nat.zero_le _)) f (ov::vs) _ m _ _ _ _ Q E fK (.cons vo v2) h2)⟩
   have:isFn c.K (.ref (c.S.oG f))=true/\keepIn c.K (.ref (c.S.oG f))=true:=by
    unfold d6 at q
    split at q
    ·split at q
     ·split at q
      ·rename_i g1 g2
       cases q
       have z:=(ok.mW.ma _ _ _ g1).2
       unfold rF at z
       simp only [Bool.and_eq_true] at z
       exact ⟨z.1.2,z.2⟩
      ·exact nh q
     all_goals (try (cases q;done))
     all_goals (repeat' split at q)
     all_goals (cases q)
    ·exact nh q
   exact rS ok this.2 _ _ _ _ fK
  |ng=>exact ⟨hJ _,oX ok hA.guards fK (λf e=>by cases e) vo v2 h2⟩
  |pr=>exact ⟨hJ _,oX ok hA.guards fK (λf e=>by cases e) vo v2 h2⟩
  |pB=>exact ⟨hJ _,oX ok hA.guards fK (λf e=>by cases e) vo v2 h2⟩
  |iV=>exact ⟨hJ _,oX ok hA.guards fK (λf e=>by cases e) vo v2 h2⟩
theorem n9 (ok:c.Ok d)(RS:d8 c n R)(hg:eg v x=true)(hc:Sh xs es)(ih:uF c n k R v env xs es)
  (hA:lN c n (k+1) A) (he:gQ c v env l m ac ah) (hn:aV c m ac ah H s):
  (∀f,c.S.glob.lookup x=some (.fn f)->bw av c m ac ah ((dK c.P R es l H).bind λvs H=>R f vs H) Q E->aG (model c.prog c.w) A (eval (.Call (.Name x p) xs [] pos) env) Q E s)/\
  (∀f,c.S.glob.lookup x=some (.cls f)->bw av c m ac ah ((dK c.P R es l H).bind λvs H=>kP c.P R f vs H) Q E->aG (model c.prog c.w) A (eval (.Call (.Name x p) xs [] pos) env) Q E s)/\
  (∀f,c.S.glob.lookup x=some (.bi f)->bw av c m ac ah ((dK c.P R es l H).bind λvs H=>bH f vs H) Q E->aG (model c.prog c.w) A (eval (.Call (.Name x p) xs [] pos) env) Q E s):=by
 refine ⟨λf hl h=> ?_,λf hl h=> ?_,λf hl h=> ?_⟩
 ·obtain ⟨a,b⟩:=ok.mW.T7 _ _ hl
  exact zA hc ih hA he hn (λQ hq=>he.Nu _ _ hg a _ _ _ _ _ _ _ _ hn hq) (λn1 l1 H1 s1 vs rs cN v1 h1=>⟨rS ok b _ _ _ _ cN,jn (RS A (hA.le (Nat.zero_le _)) f vs _ m _ _ _ _ Q E cN v1 h1)⟩) h
 ·have a:=ok.mW.EV _ _ hl
  refine zA hc ih hA he hn (λQ hq=>he.Nu _ _ hg a _ _ _ _ _ _ _ _ hn hq) (λn1 l1 H1 s1 vs rs cN v1 h1=>⟨?_,PQ ok RS hA cN v1 h1⟩) h
  cases q:c.P.init f with
  |none=>unfold kP at h1;rw [q] at h1;exact h1.elim
  |some i=>exact rS ok (ok.mW.init f i q).2.1 _ _ _ _ cN
 ·refine rB (ok.mW.VQ _ _ hl) λa b e=> ?_
  exact zA hc ih hA he hn (λQ hq=>he.VB _ _ hg a b e _ _ _ _ _ _ _ _ hn hq) (λn1 l1 H1 s1 vs rs cN v1 h1=>⟨Gs f,Mb ok hA cN v1 h1⟩) h
set_option tactic.hygienic true in
theorem Hh (ok:c.Ok d)(h:gh v x i=true):∀{pos},lH c n k R v env (.Name x pos) (.loc i):=by
 intro pos A l m ac ah H s Q E hA he hn h'
 change bw av c m ac ah (match l[i]? with|some (some v)=> .ok v H|_=> .bad) Q E at h'
 split at h'
 ·rename_i val q
  refine aZ (he.loc x i val h q ac ah bq.refl) λrv hv hr=> ?_
  exact ap (hr H s A pos Q E hn (h' _ _ _ _ hn bq.refl hv))
 ·exact h'.elim
theorem Bj (hp:mO x=true)(ih:lH c n k R v env x e)
  (hA:lN c n (k+1) A) (he:gQ c v env l m ac ah) (hn:aV c m ac ah H s) (h:bw xV c m ac ah ((bj c.P R e l H).bind λv H=>ff (eP v H) H) Q E):aG (model c.prog c.w) A (isTrue x env (eval x env)) Q E s:=
 E2 hp (ih hA he hn (bw.bind h λv H1 n1 l1 s1 rv cN X1 v1 h1=>vT cN v1 h1))
end
structure sy (c:Cx)(v:CV):Prop where
 sc:v.sc=c.cs
 inj:∀x y i,v.ot.lookup x=some i->v.ot.lookup y=some i->x=y
 kind:∀x i,v.ot.lookup x=some i->c.cs.names.lookup x=some .local∨(c.cs.names.lookup x=some .cell/\∃a,c.cl.lookup x=some a)
 Hd:(v.sc.names.all λp=>p.2 != .cell)=true->c.cl= []
structure bC (c:Cx)(v:CV)(l:cR)(m:Str->Option Value)(ac:ao)(ah:dN):Prop where
 loc:∀x i val,v.ot.lookup x=some i->l[i]? =some (some val)->c.cs.names.lookup x=some .local->∃rv,m x=some rv/\av ac ah val rv
 I4:∀x i val,v.ot.lookup x=some i->l[i]? =some (some val)->c.cs.names.lookup x=some .cell->∃a o rv,c.cl.lookup x=some a/\(a,o)∈ac/\o.data= .cell (some rv)/\av ac ah val rv
noncomputable def Cx.X (c:Cx):List Addr:=c.cl.map (·.2)
theorem ku (h:o.data= .cell v):fw o=true:=by unfold fw;rw [h]
section
variable {c:Cx}{d n k:Nat}{m:Str->Option Value}{ac:ao}{ah:dN}{H:HP}{s:Shared}{v:CV}{l:cR}
theorem Cx.Ok.Mv (ok:c.Ok d):c.env.scope.kind= .function:=ok.kind
theorem eu (ok:c.Ok d)(V:sy c v)(h:bC c v l m ac ah):gQ c v c.env l m ac ah:=by
 refine ⟨λx i val h1 h2 n' l' X=> ?_,λx rv h1 h2 n' l' H s A pos Q E hn q=> ?_,λx rv h1 h2 h3 h4 n' l' H s A pos Q E hn q=> ?_⟩
 ·unfold gh at h1
  simp only [Bool.and_eq_true,beq_iff_eq,bne_iff_ne,ne_eq] at h1
  obtain ⟨⟨e1,e2⟩,e3⟩:=h1
  have hd:(x==("__debug__":Str))=false:=eX e2
  rcases V.kind x i e1 with hk|⟨hk,_⟩
  ·refine aZ (h.loc x i val e1 h2 hk) λrv a1 a2=> ?_
   refine ⟨rv,a2.ext X,λH s A pos Q E hn q=> ?_⟩
   refine hn.gE λg T F N=> ?_
   exact nameX_L F a1 q ok.kind hk hd
  ·refine HV (h.I4 x i val e1 h2 hk) λa o rv a1 a2 a3 a4=> ?_
   refine ⟨rv,a4.ext X,λH s A pos Q E hn q=> ?_⟩
   refine hn.gE λg T F N=> ?_
   exact nameX_C N a1 (X.cell _ a2 (ku a3) (by simp)) a3 q ok.kind hk hd
 ·unfold eg at h1
  simp only [Bool.and_eq_true,beq_iff_eq,bne_iff_ne,ne_eq] at h1
  obtain ⟨e1,e2⟩:=h1
  have hd:(x==("__debug__":Str))=false:=eX e2
  rw [V.sc] at e1
  refine hn.gE λg T F N=> ?_
  exact nameX_K F (ok.pR T) (ok.Cj T) h2 q ok.kind e1 hd
 ·unfold eg at h1
  simp only [Bool.and_eq_true,beq_iff_eq,bne_iff_ne,ne_eq] at h1
  obtain ⟨e1,e2⟩:=h1
  have hd:(x==("__debug__":Str))=false:=eX e2
  rw [V.sc] at e1
  refine hn.gE λg T F N=> ?_
  exact nameX_B F (ok.pR T) (ok.Cj T) h2 h3 h4 q ok.kind e1 hd
theorem bC.ext (h:bC c v l m ac ah)(x:bq [] ac ah n' l'):bC c v l m n' l' :=
 ⟨λy i val h1 h2 h3=>aZ (h.loc y i val h1 h2 h3) λrv a b=>⟨rv,a,b.ext x⟩,
  λy i val h1 h2 h3=>HV (h.I4 y i val h1 h2 h3) λa o rv a1 a2 a3 a4=>⟨a,o,rv,a1,x.cell _ a2 (ku a3) (by simp),a3,a4.ext x⟩⟩
theorem iZ.K7 {S:lu}(nd:(ac.map (·.1)).Nodup)(hm:(d,x)∈ac)(hc:fw x=true)(hs:dV x=false)(h:iZ prog w S ac ah p o):iZ prog w S (eQ d x' ac) ah p o:=by
 have X:bq [d] ac ah (eQ d x' ac) ah:=bq.rQ nd hm hs (by simp)
 have k:∀{a:Addr} {ob:Obj},(a,ob)∈ac->fw ob=false->(a,ob)∈eQ d x' ac:=λ{a ob} hp JF=>dX hp λe=>by
  have:ob=x:=fb (a:=d) nd (by rw [<-(show a=d from e)];exact hp) hm
  rw [this,hc] at JF;exact Cg JF
 cases h with
 |list iY hv hl=>exact .list (k iY rfl) (hv.ext X) hl
 |aM iY hz hd=>exact .aM (k iY (cZ (hd _ (intKind prog w))).2) hz hd
 |cg iY hz hd hp hl=>exact .cg (k iY (cZ hd).2) hz hd (hp.ext X) hl
 |dB iY hz hd hp hl=>exact .dB (k iY (cZ hd).2) hz hd (hp.ext X) hl
 |cw iY hb hl=>exact .cw (k iY rfl) hb hl
 |inst iY hd hf hl=>exact .inst (k iY rfl) (k hd rfl) (hf.ext X) hl
theorem fF.cell {S:lu}(h:fF prog w S ac ah H)(nd:(ac.map (·.1)).Nodup)(hm:(d,x)∈ac)(hc:fw x=true)(hs:dV x=false):fF prog w S (eQ d x' ac) ah H:=
 ⟨h.len,λi o p e hp=>(h.obj i o p e hp).K7 nd hm hc hs,h.apart,h.DG,λp hp=>by
  obtain ⟨o,ho⟩:=h.there p hp
  by_cases e:p.1=d
  ·exact ⟨x',by rw [e];exact dE hm⟩
  ·exact ⟨o,dX ho e⟩⟩
theorem aV.cell (hn:aV c m ac ah H s){g:Heap}{dd:Addr}{x x' :Obj}{h' :Heap}{t:Nat}(T:KtsTurn c.fs c.g₀ g)(F:Fr g c.L h' m)(N:News g c.L h' (eQ dd x' ac))(hm:(dd,x)∈ac)(hc:fw x=true)(hs:dV x=false)
  (hx:(∃v,x.data= .cell v)->∃v,x'.data= .cell v):aV c m (eQ dd x' ac) ah H {s with heap:=h',toks:=t}:=
 ⟨⟨g,T,F,N⟩,Bo hn.nd,hn.hr.cell hn.nd hm hc hs,λy a e=>by
  refine uy (hn.cells y a e) λo v h1 h2=> ?_
  by_cases q:a=dd
  ·subst q
   have:o=x:=fb hn.nd h1 hm
   subst this
   obtain ⟨v',sN⟩:=hx ⟨v,h2⟩
   exact ⟨x',v',dE hm,sN⟩
  ·exact ⟨o,v,dX h1 q,h2⟩,hn.sh⟩
theorem pU (V:sy c v)(hx:v.ot.lookup x=some i)(hy:v.ot.lookup y=some j)(h:x≠y):i≠j:=λe=>h (V.inj x y i hx (e▸hy))
theorem KY (h:l[i]? =some w):(al l i u)[i]? =some (some u):=by
 unfold al
 rw [List.getElem?_set_self (gw h).1]
theorem lr (h:(al l i u)[i]? =some (some val)):val=u:=by
 unfold al at h
 by_cases q:i<l.length
 ·rw [List.getElem?_set_self q] at h;cases h;rfl
 ·rw [List.getElem?_eq_none (by rw [List.length_set];lia)] at h;exact nh h
theorem jl (h:i≠j):(al l i u)[j]? =l[j]? :=by
 unfold al
 rw [List.getElem?_set_ne h]
theorem eM {α β:Type}[BEq α][LawfulBEq α]:∀{l:List (α×β)} {x:α} {y:β},l.lookup x=some y->(x,y)∈l
 | [],_,_,h=>by cases h
 |(a,b)::r,x,y,h=>by
  rw [List.lookup_cons] at h
  by_cases q:x=a
  ·subst q
   simp at h
   subst h;exact .head _
  ·have:(x==a)=false:=eX q
   rw [this] at h
   exact .tail _ (eM h)
theorem FX {β:Type}{l:List (Str×β)}{a:β}(nd:(l.map (·.2)).Nodup)(h1:(x,a)∈l)(h2:(y,a)∈l):x=y:=by
 induction l with
 |nil=>exact j1 h1
 |cons p r ih=>
  have nd:=List.nodup_cons.mp nd
  rcases cH h1 with e1|h1<;>rcases cH h2 with e2|h2
  ·exact (Prod.mk.inj (e1.trans e2.symm)).1
  ·exact absurd (e1▸ip (f:=(·.2)) h2) nd.1
  ·exact absurd (e2▸ip (f:=(·.2)) h1) nd.1
  ·exact ih nd.2 h1 h2
theorem jt (ok:c.Ok d)(V:sy c v)(hn:aV c m ac ah H s)(hl:bC c v l m ac ah)(hx:v.ot.lookup x=some i)(hu:av ac ah u ru)
  (q:∀m' az s',aV c m' az ah H s'->bq c.X ac ah az ah->bC c v (al l i u) m' az ah->Q () s'):wpAny (model c.prog c.w) A (bindName c.env x ru) Q E s:=by
 refine wpAny_bindName ?_
 refine hn.gE λg T F N=> ?_
 rcases V.kind x i hx with hk|⟨hk,a,ha⟩
 ·refine storeX_L F N (λh' F' N' =>q _ ac _ ⟨⟨g,T,F',N'⟩,hn.nd,hn.hr,hn.cells,hn.sh⟩ bq.refl ⟨λy j val h1 h2 h3=> ?_,λy j val h1 h2 h3=> ?_⟩) ok.kind hk
  ·by_cases e:y=x
   ·subst e
    rw [hx] at h1;cases h1
    rw [lr h2]
    exact ⟨ru,if_pos rfl,hu⟩
   ·rw [jl (pU V hx h1 (Ne.symm e))] at h2
    refine aZ (hl.loc y j val h1 h2 h3) λrv a1 a2=> ?_
    exact ⟨rv,by rw [if_neg e];exact a1,a2⟩
  ·have e:y≠x:=λe=>by subst e;rw [hk] at h3;cases h3
   rw [jl (pU V hx h1 (Ne.symm e))] at h2
   exact hl.I4 y j val h1 h2 h3
 ·refine uy (hn.cells x a ha) λo v₀ ho hd=> ?_
  refine storeX_C F N ha (r8 hn.nd ho) hd (λh' o' F' N' BP=> ?_) ok.kind hk
  have hc:=ku hd
  have hs:dV o=false:=Cr hd
  have hX:bq c.X ac ah (eQ a o' ac) ah:=bq.rQ hn.nd ho hs (List.mem_map.mpr ⟨_,eM ha,rfl⟩)
  refine q m _ {s with heap:=h' } (hn.cell (t:=s.toks) T F' N' ho hc hs (λu8=>⟨_,BP⟩)) hX ⟨λy j val h1 h2 h3=> ?_,λy j val h1 h2 h3=> ?_⟩
  ·have e:y≠x:=λe=>by subst e;rw [hk] at h3;cases h3
   rw [jl (pU V hx h1 (Ne.symm e))] at h2
   refine aZ (hl.loc y j val h1 h2 h3) λrv a1 a2=> ?_
   exact ⟨rv,a1,a2.ext hX⟩
  ·by_cases e:y=x
   ·subst e
    rw [hx] at h1;cases h1
    rw [lr h2]
    exact ⟨a,o',ru,ha,dE ho,BP,hu.ext hX⟩
   ·rw [jl (pU V hx h1 (Ne.symm e))] at h2
    refine HV (hl.I4 y j val h1 h2 h3) λb ob rv a1 a2 a3 a4=> ?_
    exact ⟨b,ob,rv,a1,dX a2 λe' =>e (FX ok.Rf (eM a1) (by rw [show b=a from e'];exact eM ha)),a3,a4.ext hX⟩
end
noncomputable def IE (c:Cx)(k:Nat)(ac:ao)(ev:Value)(s:Shared):Prop:=
 ∃e t vs g',ev= .ref e/\KtsTurn c.fs c.g₀ g' /\RaisedS c.base g' c.outer e (.ref (c.S.dF k)) t vs ac s.heap/\g'.UpToSlots s.heap/\(s.gens=c.gens/\s.drawn=c.drawn/\s.os=c.os)/\(c.S.HU k=false->ef e s.heap)
noncomputable def f7 (c:Cx)(k:Nat)(ac:ao)(ev:Value)(s:Shared):Prop:=wpAny (model c.prog c.w) c.A (leaving c.env ev) (λu8 s' =>IE c k ac ev s') (λu8 u8=>False) s
structure Lg (c:Cx)(ac:ao)(ah:dN)(H:HP):Prop where
 nd:(ac.map (·.1)).Nodup
 hr:fF c.prog c.w c.S ac ah H
noncomputable def bv (c:Cx)(v:CV)(ac:ao)(ah:dN)(o:cQ)(Q:Flow->Shared->Prop)(E:Value->Shared->Prop):Prop:=match o with
 | .next l H=>∀m' az bM s',aV c m' az bM H s'->bq c.X ac ah az bM->bC c v l m' az bM->Q .next s'
 | .cont l H=>∀m' az bM s',aV c m' az bM H s'->bq c.X ac ah az bM->bC c v l m' az bM->Q .cont s'
 | .ret x H=>∀m' az bM s' rx,aV c m' az bM H s'->bq c.X ac ah az bM->av az bM x rx->Q (.ret rx) s'
 | .exc k l H=>∀m' az bM s' ev,CS c az bM H s'->bq c.X ac ah az bM->bC c v l m' az bM->kg c m' k az ev s'->E ev s'
 | .jp k H=>∀az bM s' ev,Lg c az bM H->bq c.X ac ah az bM->f7 c k az ev s'->E ev s'
 | .bad=>False
section
variable {c:Cx}{d n k:Nat}{v:CV}{ac n' :ao}{ah l' :dN}{Q:Flow->Shared->Prop}{E:Value->Shared->Prop}
theorem bv.base (x:bq c.X ac ah n' l')(h:bv c v ac ah o Q E):bv c v n' l' o Q E:=by
 cases o with
 |next l H=>exact λm' n2 l2 s' N X L=>h m' n2 l2 s' N (x.trans X) L
 |cont l H=>exact λm' n2 l2 s' N X L=>h m' n2 l2 s' N (x.trans X) L
 |ret y H=>exact λm' n2 l2 s' r N X L=>h m' n2 l2 s' r N (x.trans X) L
 |exc k l H=>exact λm' n2 l2 s' r N X L V=>h m' n2 l2 s' r N (x.trans X) L V
 |jp k H=>exact λn2 l2 s' r N X V=>h n2 l2 s' r N (x.trans X) V
 |bad=>exact h
theorem bv.mono (h:bv c v ac ah o Q E)(hq:∀f s,Q f s->Q' f s)(he:∀e s,E e s->E' e s):bv c v ac ah o Q' E' :=by
 cases o with
 |next l H=>exact λm' n2 l2 s' N X L=>hq _ _ (h m' n2 l2 s' N X L)
 |cont l H=>exact λm' n2 l2 s' N X L=>hq _ _ (h m' n2 l2 s' N X L)
 |ret y H=>exact λm' n2 l2 s' r N X L=>hq _ _ (h m' n2 l2 s' r N X L)
 |exc k l H=>exact λm' n2 l2 s' r N X L V=>he _ _ (h m' n2 l2 s' r N X L V)
 |jp k H=>exact λn2 l2 s' r N X V=>he _ _ (h n2 l2 s' r N X V)
 |bad=>exact h
theorem bv.then {α β:Type}{rel:ao->dN->α->β->Prop}{o:du α}{f:α->HP->cQ}{Q1:β->Shared->Prop}(hl:bC c v l m ac ah)(h:bv c v ac ah (o.then l f) Q E)
  (k:∀x H1 n1 l1 s1 rx,aV c m n1 l1 H1 s1->bq [] ac ah n1 l1->bC c v l m n1 l1->rel n1 l1 x rx->bv c v n1 l1 (f x H1) Q E->Q1 rx s1):bw rel c m ac ah o Q1 E:=by
 cases o with
 |ok a H=>exact λn2 l2 s' r N X V=>k _ _ _ _ _ _ N X (hl.ext X) V (bv.base X.wide h)
 |exc k' H=>exact λn2 l2 s' ev N X V=>h m n2 l2 s' ev N X.wide (hl.ext X) V
 |bad=>exact h
end
section
variable {M:Model}{A:Around}{E:Value->Shared->Prop}{s:Shared}{env:Env}
theorem NG (h:Q .next s):aG M A (exec (.Pass pos) env) Q E s:=λu8 u8 u8 u8=>h
theorem O9 (h:Q .cont s):aG M A (exec (.Continue pos) env) Q E s:=λu8 u8 u8 u8=>h
theorem PG (hi:interactive env=false)(hs:swapsWith e none pos.line env=pure false)(h:aG M A (eval e env) (λv s' =>(∀a,v≠ .ref a)/\Q .next s') E s):aG M A (exec (.Expr e pos) env) Q E s:=by
 rw [arm_exec_Expr,hi,hs]
 refine ag (aB ?_)
 show aG M A (do let b<-(pure false:Sem Bool);if b then (do evalThenUse e env λu8=>point;pure .next) else do dropValue e pos (<-eval e env)) Q E s
 refine ag (aq ?_)
 show aG M A (do dropValue e pos (<-eval e env)) Q E s
 refine ag (aA h λv s₁ h₁=> ?_)
 rw [dropValue_plain h₁.1]
 exact aq h₁.2
theorem Bz (hw:swapsWith e (some t) pos.line env=pure false)(hs:swappedStores [t] e env=pure none)(ht:assignEach [t] env= [(false,assign t env)])
  (h:aG M A (eval e env) (λv s₁=>aG M A (assign t env v) (λu8 s₂=>Q .next s₂) E s₁) E s):aG M A (exec (.Assign [t] e pos) env) Q E s:=by
 rw [arm_exec_Assign]
 refine ag (aB ?_)
 show aG M A (do let b<-swapsWith e (some t) pos.line env;_) Q E s
 rw [hw]
 refine ag (aq ?_)
 show aG M A (do let v<-eval e env;assignStores env v (<-swappedStores [t] e env) ((assignEach [t] env).map (·.2))) Q E s
 refine ag (aA h λv s₁ h₁=> ?_)
 rw [hs]
 refine ag (aq ?_)
 rw [ht]
 show aG M A (do assignAll v [assign t env];pure .next) Q E s₁
 exact ag (aA h₁ λu8 s₂ h₂=>aq h₂)
theorem Jl (h:aG M A (eval e env) (λv s' =>Q (.ret v) s') E s):aG M A (exec (.Return (some e) pos) env) Q E s:=by
 rw [arm_exec_Return]
 refine ag (aB ?_)
 exact ag (aA h λv s₁ h₁=>aq h₁)
theorem VS (h:aG M A (isTrue t env (eval t env)) (λc s₁=>if c=true then aG M A (execs a env) Q E s₁ else aG M A (execs b env) Q E s₁) E s):aG M A (exec (.If t a b pos) env) Q E s:=by
 rw [arm_exec_If]
 refine ag (aB ?_)
 exact ag (aA h λc s₁ h₁=>by cases c<;>exact h₁)
theorem Jt (h:Q .next s):aG M A (execs [] env) Q E s:=aq h
theorem KN {st:Stmt}(h:aG M A (exec st env) (λf s₁=>match f with| .next=>aG M A (execs r env) Q E s₁|f=>Q f s₁) E s):aG M A (execs (st::r) env) Q E s:=by
 rw [arm_execs_cons]
 refine ag (aA h λf s₁ h₁=> ?_)
 cases f<;>first|exact h₁|exact aq h₁
theorem KX (h:aG M A (bindName env x v) Q E s):aG M A (assign (.Name x p) env v) Q E s:=ag (aB h)
theorem NX (h:aG M A (eval o env) (λov s₁=>aG M A (setAttr ov a v) Q E s₁) E s):aG M A (assign (.Attribute o a p) env v) Q E s:=by
 show aG M A (do let ov<-holding [v] (eval o env);standAt p.atName;holding [v,ov] (setAttr ov a v);release [v,ov] []) Q E s
 exact ag (aD (aA h λov s₁ h₁=>ag (aB (ag (aD (aA h₁ λu8 s₂ h₂=>jP h₂))))))
theorem Qv (h:aG M A (eval o env) (λov s₁=>aG M A (eval i env) (λiv s₂=>aG M A (setItem ov iv v) Q E s₂) E s₁) E s):aG M A (assign (.Subscript o i p) env v) Q E s:=by
 rw [arm_assign_Subscript]
 exact ag (aD (aA h λov s₁ h₁=>ag (aD (aA h₁ λiv s₂ h₂=>ag (aB (ag (aD (aA h₂ λu8 s₃ h₃=>jP h₃))))))))
theorem SK (h:aG M A (eval o env) (λov s₁=>aG M A (eval i env) (λiv s₂=>aG M A (delItem ov iv) (λu8 s₃=>Q .next s₃) E s₂) E s₁) E s):aG M A (exec (.Delete [.Subscript o i p] pos) env) Q E s:=by
 rw [arm_exec_Delete]
 refine ag (aB ?_)
 rw [arm_deleteEach_cons,arm_delete_Subscript]
 refine ag (ag (ag (aA h λov s₁ h₁=>ag (aD (aA h₁ λiv s₂ h₂=>ag (aB (ag (aD (aA h₂ λu8 s₃ h₃=>jP ?_)))))))))
 rw [arm_deleteEach_nil]
 exact aq (aq h₃)
theorem QC
  (h:aG M A (loadName env x) (λcx s₁=>aG M A (eval e env) (λv s₂=>aG M A (inplaceOp op cx v) (λr s₃=>aG M A (bindName env x r) (λu8 s₄=>Q .next s₄) E s₃) E s₂) E s₁) E s):
  aG M A (exec (.AugAssign (.Name x p) op e pos) env) Q E s:=by
 rw [arm_exec_AugAssign]
 exact ag (aB (ag (aA h λcx s₁ h₁=>ag (aD (aA h₁ λv s₂ h₂=>ag (aB (ag (iq (aA h₂ λr s₃ h₃=>ag (aB (ag (aA h₃ λu8 s₄ h₄=>aq h₄))))))))))))
theorem PY
  (h:aG M A (eval o env) (λov s₁=>aG M A (getAttr ov a true) (λcx s₂=>aG M A (eval e env) (λv s₃=>aG M A (inplaceOp op cx v) (λr s₄=>aG M A (setAttr ov a r) (λu8 s₅=>Q .next s₅) E s₄) E s₃) E s₂) E s₁) E s):
  aG M A (exec (.AugAssign (.Attribute o a p) op e pos) env) Q E s:=by
 rw [arm_exec_AugAssign_2]
 refine ag (aB (ag (aA h λov s₁ h₁=>ag (aD ?_))))
 refine ag (aB (ag (aA h₁ λcx s₂ h₂=>ag (aD (aA h₂ λv s₃ h₃=>ag (aB (iq (aA h₃ λr s₄ h₄=> ?_))))))))
 exact ag (aB (ag (aD (aA h₄ λu8 s₅ h₅=>ag (jP (aq h₅))))))
end
inductive jC (ac:ao)(ah:dN):SV->Nat->Addr->Prop
 |list {r:Nat} {p:Nat×Nat} {o:Obj} {k:Nat} {it:Addr}:ah[r]? =some p->(it,o)∈ac->o.cls= .type "list_iterator"->o.data= .fields #[.ref p.1, .int k 0]->jC ac ah (.ref r) k it
 |range {lo hi:Int} {o:Obj} {k:Nat} {it:Addr} {x y:Int}:(it,o)∈ac->o={cls:= .type "range_iterator",dict:=none,data:= .fields #[rawInt x,rawInt y,rawInt 1],slots:= #[]}->x=lo+k->y=hi - lo - k->jC ac ah (.range lo hi) k it
 |bytes {b:By} {dp:Array UInt8} {t:Tok} {o:Obj} {k:Nat} {it:Addr}:KBw.bInts dp=b->(it,o)∈ac->o.cls= .type "bytes_iterator"->o.data= .fields #[.bytes dp t, .int k 0]->jC ac ah (.bytes b) k it
theorem jC.obj (h:jC ac ah v k it):∃o,(it,o)∈ac/\fw o=true/\dV o=false/\∀x,o.data≠ .cell x:=by
 cases h with
 |list _ hm hc hd=>exact ⟨_,hm,by unfold fw;rw [hd,hc];rfl,by unfold dV;rw [hd,hc];rfl,λx e=>by rw [hd] at e;cases e⟩
 |range hm ho _ _=>subst ho;exact ⟨_,hm,rfl,rfl,λx e=>by cases e⟩
 |bytes _ hm hc hd=>exact ⟨_,hm,by unfold fw;rw [hd,hc];rfl,by unfold dV;rw [hd,hc];rfl,λx e=>by rw [hd] at e;cases e⟩
theorem jC.ext {X:List Addr}(x:bq X ac ah n' l')(hX:it∉X)(h:jC ac ah v k it):jC n' l' v k it:=by
 have hc:=h.obj
 cases h with
 |list hp hm hc hd=>exact .list (x.at hp) (x.cell _ hm (by unfold fw;rw [hd,hc];rfl) hX) hc hd
 |range hm ho e1 e2=>subst ho;exact .range (x.cell _ hm rfl hX) rfl e1 e2
 |bytes hb hm hc hd=>exact .bytes hb (x.cell _ hm (by unfold fw;rw [hd,hc];rfl) hX) hc hd
theorem bq.mono {X Y:List Addr}(x:bq X n1 l1 n2 l2)(h:∀a∈X,a∈Y):bq Y n1 l1 n2 l2:=⟨x.ah,x.tp,λp h1 h2 h3=>x.cell p h1 h2 λq=>h3 (h _ q)⟩
noncomputable def eE (it:Addr)(ac:ao):ao:=ac.filter λp=>decide (p.1≠it)
theorem bz:p∈eE it ac↔p∈ac/\p.1≠it:=by unfold eE;rw [List.mem_filter,decide_eq_true_iff]
section
variable {c:Cx}{d n k:Nat}{m:Str->Option Value}{ac:ao}{ah:dN}{H:HP}{s:Shared}{v:CV}{l:cR}
theorem iZ.drop {S:lu}(nd:(ac.map (·.1)).Nodup)(hm:(d,x)∈ac)(hc:fw x=true)(hs:dV x=false)(h:iZ prog w S ac ah p o):iZ prog w S (eE d ac) ah p o:=by
 have ne:∀{a:Addr} {ob:Obj},(a,ob)∈ac->ob≠x->a≠d:=λ{a ob} hp lG e=>lG (fb (a:=d) nd (by rw [<-e];exact hp) hm)
 have X:bq [d] ac ah (eE d ac) ah:=⟨⟨[],(ch _).symm⟩,λp hp q=>bz.mpr ⟨hp,ne hp λe=>by rw [e,hs] at q;exact yb q⟩,λp hp q z=>bz.mpr ⟨hp,λe=>z (by rw [e];simp)⟩⟩
 have k:∀{a:Addr} {ob:Obj},(a,ob)∈ac->fw ob=false->(a,ob)∈eE d ac:=λ{a ob} hp JF=>bz.mpr ⟨hp,ne hp λe=>by rw [e,hc] at JF;exact Cg JF⟩
 cases h with
 |list iY hv hl=>exact .list (k iY rfl) (hv.ext X) hl
 |aM iY hz hd=>exact .aM (k iY (cZ (hd _ (intKind prog w))).2) hz hd
 |cg iY hz hd hp hl=>exact .cg (k iY (cZ hd).2) hz hd (hp.ext X) hl
 |dB iY hz hd hp hl=>exact .dB (k iY (cZ hd).2) hz hd (hp.ext X) hl
 |cw iY hb hl=>exact .cw (k iY rfl) hb hl
 |inst iY hd hf hl=>exact .inst (k iY rfl) (k hd rfl) (hf.ext X) hl
theorem IR {S:lu}(nd:(ac.map (·.1)).Nodup)(h:iZ prog w S ac ah p o){ob:Obj}(hm:(a,ob)∈ac)(hc:fw ob=true):p.1≠a:=λe=>by
 subst e
 cases h with
 |list iY _ _=>rw [<-fb nd iY hm] at hc;cases hc
 |aM iY _ hd=>rw [<-fb nd iY hm,(cZ (hd _ (intKind prog w))).2] at hc;exact yb hc
 |cg iY _ hd _ _=>rw [<-fb nd iY hm,(cZ hd).2] at hc;exact yb hc
 |dB iY _ hd _ _=>rw [<-fb nd iY hm,(cZ hd).2] at hc;exact yb hc
 |cw iY _ _=>rw [<-fb nd iY hm] at hc;cases hc
 |inst iY _ _ _=>rw [<-fb nd iY hm] at hc;cases hc
theorem aV.drop (hn:aV c m ac ah H s){t:Nat}(hm:(it,x)∈ac)(hc:fw x=true)(hs:dV x=false)(hd:∀v,x.data≠ .cell v)(he:Heap.ExtBut it s.heap h'):aV c m (eE it ac) ah H {s with heap:=h',toks:=t}:=by
 obtain ⟨⟨g,T,F,N⟩,nd,hr,ce,sh⟩:=hn
 have hi:=N _ hm
 refine ⟨⟨g,T,⟨F.ns.extBut he (Ne.symm hi.2.1),λb o e=>he b o (λq=>by rw [q,hi.2.2] at e;exact nh e) (F.keep b o e),F.above⟩,λp hp=> ?_⟩, ?_,⟨hr.len,λi o p e hp=>(hr.obj i o p e hp).drop nd hm hc hs,hr.apart,hr.DG,λp hp=> ?_⟩,λy a e=> ?_,sh⟩
 ·obtain ⟨h1,h2⟩:=bz.mp hp
  exact ⟨he _ _ h2 (N p h1).1,(N p h1).2⟩
 ·exact nd.sublist (List.Sublist.map _ (List.filter_sublist))
 ·obtain ⟨i,Nz⟩:=List.getElem?_of_mem hp
  have hl:i<H.length:=by rw [<-hr.len];exact (gw Nz).1
  obtain ⟨o,ho⟩:=hr.there p hp
  exact ⟨o,bz.mpr ⟨ho,IR nd (hr.obj i _ p (eV hl) Nz) hm hc⟩⟩
 ·refine uy (ce y a e) λo v h1 h2=> ?_
  refine ⟨o,v,bz.mpr ⟨h1,λq=> ?_⟩,h2⟩
  have:o=x:=fb (a:=it) nd (by rw [<-(show a=it from q)];exact h1) hm
  exact hd v (this▸h2)
theorem A7 (ok:c.Ok d)(hn:aV c m ac ah H s):∀a∈c.X,a<s.heap.objs.size:=λa ha=>by
 refine aZ (gH ha) λp hp e=> ?_
 obtain ⟨x,b⟩:=p
 obtain rfl:b=a:=e
 refine uy (hn.cells x b (lookup_of_mem_nodup ok.WO hp)) λo v h1 u8=> ?_
 exact hn.lt _ h1
theorem Ab (hn:aV c m ac ah H s)(hf:o.isFreed=false):aV c m ((s.heap.objs.size,o)::ac) ah H {s with heap:=s.heap.push o}:=by
 refine hn.gE λg T F N=> ?_
 exact hn.more (t:=s.toks) T (F.push _) (N.push F o hf) hn.lt
end
section
variable {c:Cx}{d n k:Nat}{m:Str->Option Value}{ac:ao}{ah:dN}{H:HP}{s:Shared}{v:CV}{l:cR}{A:Around}{E:Value->Shared->Prop}
set_option tactic.hygienic true in
theorem BK (hn:aV c m ac ah H s)(hx:av ac ah x rx)(hs:ct x 0 H≠none)
  (q:∀o s',aV c m ((s.heap.objs.size,o)::ac) ah H s'->jC ((s.heap.objs.size,o)::ac) ah x 0 s.heap.objs.size->Q (.ref s.heap.objs.size) s'):wpAny (model c.prog c.w) A (pyIter rx) Q E s:=by
 refine hn.gE λg T F N=> ?_
 cases hx with
 |range hm h0 h1 h2=>
  rename_i lo hi a t u w
  have kf:hi<=4096:=h2
  refine wpAny_pyIter_range (hn.addr hm) (jK h0 h1 kf) ?_
  have hz:Builtin.Range.rangeSize lo hi 1=hi - lo:=by rw [rangeSize_nat];lia
  rw [hz]
  exact q _ _ (Ab hn rfl) (.range (.head _) rfl (by simp) (by simp))
 |bytes dp t h1 h2=>exact KBw.pyIter_bytes (q _ _ (Ab hn rfl) (.bytes h1 (.head _) rfl rfl))
 |ref hp=>
  rename_i i p
  have hO:∃vs,H[i]? =some (.list vs):=by
   unfold ct at hs
   dsimp only at hs
   split at hs
   ·exact ⟨_,by assumption⟩
   ·exact absurd rfl hs
  obtain ⟨vs,hO⟩:=hO
  cases hn.hr.obj i _ p hO hp with
  |list hm hv hl=>exact wpAny_pyIter_list ⟨_,hn.addr hm,rfl,_,rfl⟩ (q _ _ (Ab hn rfl) (.list hp (.head _) rfl rfl))
 |_=>exact absurd rfl hs
theorem vZ (hn:aV c m ac ah H s){t:Nat}(hm:(it,o)∈ac)(hc:fw o=true)(hs:dV o=false)(hd:∀x,o.data≠ .cell x)(he:Heap.SameBut it s.heap h')(ho:h'.get? it=some o'):
  aV c m (eQ it o' ac) ah H {s with heap:=h',toks:=t}/\bq [it] ac ah (eQ it o' ac) ah/\(it,o')∈eQ it o' ac:=by
 refine hn.gE λg T F N=> ?_
 exact ⟨hn.cell T (F.change he (N _ hm).2.1 (N _ hm).2.2) (qv hn.nd N hm he ho) hm hc hs (λ⟨v,e⟩=>absurd e (hd v)),bq.rQ hn.nd hm hs (by simp),dE hm⟩
noncomputable def X7 (c:Cx)(m:Str->Option Value)(ac:ao)(ah:dN)(H:HP)(x:SV)(j:Nat)(it:Addr)(h:Heap)(Q:Option Value->Shared->Prop):Option SV->Prop
 |none=>∀s',aV c m (eE it ac) ah H s'->Heap.ExtBut it h s'.heap->Q none s'
 |some y=>∀az s' ry,aV c m az ah H s'->Heap.ExtBut it h s'.heap->az.map (·.1)=ac.map (·.1)->bq [it] ac ah az ah->jC az ah x (j+1) it->av az ah y ry->Q (some ry) s'
set_option tactic.hygienic true in
theorem vX (hh:A.handled=none)(hn:aV c m ac ah H s)(hi:jC ac ah x j it)(e:ct x j H=some r)
  (q:X7 c m ac ah H x j it s.heap Q r):wpAny (model c.prog c.w) A (pyNext (.ref it)) Q E s:=by
 refine Kc hi.obj λo HH KG KW LZ=> ?_
 have fin:∀h',Heap.ExtBut it s.heap h'->aV c m (eE it ac) ah H {s with heap:=h' }:=λh' he=>hn.drop (t:=s.toks) HH KG KW LZ he
 cases hi with
 |list hp hm hc hd=>
  rename_i rr p o1
  unfold ct at e
  dsimp only at e
  split at e
  ·rename_i vs hO
   cases e
   cases hn.hr.obj rr _ p hO hp with
   |list iY hv hl=>
    rename_i aC nn
    have hL:s.heap.IsList p.1 aC.toArray:=⟨_,hn.addr iY,rfl,_,rfl⟩
    have hI:s.heap.IsListIter it p.1 j:=⟨_,hn.addr hm,hc,hd⟩
    cases qq:vs[j]? with
    |none=>
     rw [qq] at q
     have hle:=hv.length
     refine wpAny_pyNext_list_end hh hI hL (by rw [List.getElem?_toArray];exact List.getElem?_eq_none (by have:=List.getElem?_eq_none_iff.mp qq;lia)) λh' he=>q _ (fin h' he) he
    |some y=>
     rw [qq] at q
     refine aZ (hv.at qq) λry h1 h2=> ?_
     refine wpAny_pyNext_list_item hI hL (by rw [List.getElem?_toArray];exact h1) λh' JI he=> ?_
     refine mq JI λo' tz TC BP=> ?_;clear JI
     refine rB (vZ (t:=s.toks) hn HH KG KW LZ he tz) λa1 a2 a3=> ?_
     exact q _ _ ry a1 he.extBut (mZ _ _ _) a2 (.list hp a3 TC BP) (h2.ext a2)
  ·exact nh e
 |range hm ho e1 e2=>
  rename_i lo hi o1 x1 y1
  subst ho
  have hI:IsRangeIter s.heap it x1 y1 1:=hn.addr hm
  unfold ct at e
  dsimp only at e
  split at e
  ·rename_i lO
   cases e
   refine wpAny_pyNext_range_item hI (by lia) λh' JI he=> ?_
   refine rB (vZ (t:=s.toks+1) hn HH KG KW LZ he JI) λa1 a2 a3=> ?_
   subst e1
   exact q _ _ (.int (lo+j) s.toks) a1 he.extBut (mZ _ _ _) a2 (.range a3 rfl (by lia) (by lia)) (.int _ _)
  ·rename_i lO
   cases e
   exact wpAny_pyNext_range_end hh hI (by lia) λh' he=>q _ (fin h' he) he
 |bytes hb hm hc hd=>
  rename_i b dp t o1
  have hI:KBw.IsBytesIter s.heap it dp t j:=⟨_,hn.addr hm,hc,hd⟩
  unfold ct at e
  dsimp only at e
  cases e
  subst hb
  cases qq:dp[j]? with
  |none=>
   have:(KBw.bInts dp)[j]? =none:=List.getElem?_eq_none (by rw [KBw.ints_length];exact Array.getElem?_eq_none_iff.mp qq)
   rw [this] at q
   exact KBw.next_end hh hI qq λh' he=>q _ (fin h' he) he
  |some cc=>
   rw [KBw.ints_get qq] at q
   refine KBw.next_item hI qq λh' JI he=> ?_
   refine mq JI λo' tz TC BP=> ?_;clear JI
   refine rB (vZ (t:=s.toks+1) hn HH KG KW LZ he tz) λa1 a2 a3=> ?_
   exact q _ _ (.int cc.toNat s.toks) a1 he.extBut (mZ _ _ _) a2 (.bytes rfl a3 TC BP) (.int _ _)
end
section
open PySem.Builtin PySem.Builtin.Str
noncomputable abbrev FS:=List Value×Writer×List Nat
noncomputable abbrev FA (X:Type):=Value->Str->Value->Bool->Option Str->Bool->X
noncomputable def gd {β:Type}(w:Writer)(R:Sem β):Sem β:=if tooLong w.total=true then (unsupported "str.__mod__:memory":Sem Unit)>>=λu8=>R else R
noncomputable def Vb (w:Writer)(more:List Value)(aI:List Nat)(q:List Nat×Option Value×Bool):Sem (ForInStep FS):=
 match percentField {type:=100} q.2.2 q.1 with
 |none=>pure (.yield (more,w.add ⟨q.1.toArray⟩ (if aI.isEmpty=true then q.2.1 else none),aI))
 |some laid=>pure (.yield (more,w.add ⟨laid.toArray⟩,aI))
noncomputable def Uq (i:Int):Sem (List Nat×Option Value×Bool):=
 mkInt ↑i.natAbs>>=λm=>call (.builtin "int.__repr__") [m]>>=λr=>asStr? r>>=λy=>
  «str.split».match_3 (λu8=>Sem (List Nat×Option Value×Bool)) y (λd=>pure d.cps.toList>>=λg=>pure (percentInt {type:=100} (decide (i<0)) g,none,true)) λu8=>unsupported "internal:str.__mod__">>=λg=>pure (percentInt {type:=100} (decide (i<0)) g,none,true)
noncomputable def sL (x:String):List Nat:=x.toList.map Char.toNat
noncomputable def FK:Str:= .ofString "no command is of kind %d"
noncomputable def FE:Str:= .ofString "entry %d does not follow %d"
noncomputable def PL (f:FA (Nat->FS->Sem (ForInStep FS)))(F:Str)(r l t:List Nat):Prop:=∀o args b x m i p w,gd w (pure (.yield (p,w.add ⟨l.toArray⟩ none,t)))=f o F args b x m i (p,w,r)
noncomputable def kk (f:FA (Nat->FS->Sem (ForInStep FS)))(fin:FA (FS->Sem Fin))(o:Value)(F:Str)(args:Value)(b:Bool)(x:Option Str)(m:Bool)(p:List Value):Sem Fin:=
 forIn [:F.length] (p,({}:Writer),F.cps.toList) (f o F args b x m)>>=fin o F args b x m
structure PF (f:FA (Nat->FS->Sem (ForInStep FS)))(fin:FA (FS->Sem Fin)):Prop where
 z:∀o F args b x m i p w,gd w (pure (.done (p,w, [])))=f o F args b x m i (p,w, [])
 e:∀o F args b x m w,w.finish "str.__mod__"=fin o F args b x m ([],w, [])
 i:∀o F args b x m i n u more w aI,gd w (holding [.int n u] (percentIntOf 100 (.int n u)>>=Uq)>>=Vb w more aI)=f o F args b x m i (.int n u::more,w,37::100::aI)
 a:PL f FK FK.cps.toList (sL "no command is of kind ") [37,100]
 b:PL f FE FE.cps.toList (sL "entry ") (37::100::sL " does not follow %d")
 c:PL f FE (sL " does not follow %d") (sL " does not follow ") [37,100]
theorem pf:∃(f:FA (Nat->FS->Sem (ForInStep FS))) (fin:FA (FS->Sem Fin)),
 (∀o F args,percentFormat o F args=isInstance args (.type "tuple")>>=λb=>asStr? args>>=λx=>fillsMappingSlot args>>=λm=>
   if b=true then seqItems? args>>=λy=>(«str.join».match_1 (λu8=>Sem Fin) y (λxs=>pure xs.toList>>=kk f fin o F args b x m) (λu8=>unsupported "internal:str.__mod__">>=kk f fin o F args b x m)) else pure [args]>>=kk f fin o F args b x m)/\
 PF f fin:=by
 refine ⟨?f, ?fin, ?z, ?_⟩
 case z=>
  intro o F args
  delta percentFormat
  exact rfl
 refine ⟨?_, ?_, ?_, ?_, ?_, ?_⟩
 ·intros;kernel_rfl
 ·intros;kernel_rfl
 ·intros;kernel_rfl
 ·unfold PL;intros;kernel_rfl
 ·unfold PL;intros;kernel_rfl
 ·unfold PL;intros;kernel_rfl
section
variable {M:Model}{A:Around}{E:Value->Shared->Prop}{s:Shared}{f:FA (Nat->FS->Sem (ForInStep FS))}{fin:FA (FS->Sem Fin)}{l:List Nat}{k N:Nat}{p:List Value}{w:Writer}{r t lit:List Nat}{T F' :Str}{o args:Value}{b m:Bool}{x:Option Str}{Q:FS->Shared->Prop}
theorem vG {β:Type}{t t' :Sem β}{Q:β->Shared->Prop}(e:t' =t)(h:wpAny M A t' Q E s):wpAny M A t Q E s:=e▸h
theorem Gh {β:Type}{R:Sem β}{Q:β->Shared->Prop}(g:KPc.Good w T N)(hN:N<=16777216)(h:wpAny M A R Q E s):wpAny M A (gd w R) Q E s:=by
 unfold gd
 rw [if_neg (KPc.short_good g hN)];exact h
theorem XN {f:Nat->FS->Sem (ForInStep FS)}(hl:l.length=k+1)(g:KPc.Good w T N)(hN:N<=16777216){y b0:FS}(e:∀i,gd w (pure (.yield y))=f i b0)(h:∀l' :List Nat,l'.length=k->wpAny M A (forIn l' y f) Q E s):wpAny M A (forIn l b0 f) Q E s:=by
 cases l with
 |nil=>exact absurd hl.symm (Nat.succ_ne_zero k)
 |cons i l=>
  refine KPc.turn ?_
  exact vG (e i) (Gh g hN (br (h l (Nat.succ.inj hl))))
theorem Tm (hp:PL f F' r lit t)(hl:l.length=k+1)(g:KPc.Good w T N)(hN:N<=16777216)(h:∀(l' :List Nat) w',l'.length=k->KPc.Good w' (T++⟨lit.toArray⟩) (N+(⟨lit.toArray⟩:Str).length)->wpAny M A (forIn l' (p,w',t) (f o F' args b x m)) Q E s):wpAny M A (forIn l (p,w,r) (f o F' args b x m)) Q E s:=
 XN hl g hN (λi=>hp o args b x m i p w) λl' sM=>h l' _ sM (KPc.good_add g (KPc.obj_none rfl))
theorem Vg (hp:PF f fin)(hl:l.length=k+1)(g:KPc.Good w T N)(hN:N<=16777216){Q:Fin->Shared->Prop}
  (h:∀t k,Q (.done (.ret (.str T t))) {s with toks:=k}):wpAny M A (forIn l ([],w, []) (f o F' args b x m)) (λa s=>wpAny M A (fin o F' args b x m a) Q E s) E s:=by
 cases l with
 |nil=>exact absurd hl.symm (Nat.succ_ne_zero k)
 |cons i l=>exact KPc.turn (vG (hp.z ..) (Gh g hN (br (vG (hp.e ..) (KPc.finish_ok g hN rfl h)))))
theorem Mi {prog:Program}{W:World}{n:Int}{Q:List Nat×Option Value×Bool->Shared->Prop}(h0:0<=n)(hd:n.natAbs.log2<1920)(h:∀q,Q ((Str.ofString (toString n)).cps.toList,none,true) {s with toks:=q}):wpAny (model prog W) A (Uq n) Q E s:=by
 refine ar (wpAny_mkInt ?_)
 refine ar (call_gives F.slot_int_repr (typeIs_int _ _ _) F.entry_int_repr (F.args_int_repr_1 _) (gives_int_repr _ _ (KPt.hd2 hd)) ⟨int_text_fits (KPt.hd2 hd), ?_⟩)
 refine ar (cY (a:=some _) rfl ?_)
 refine ar (br (br ?_))
 rw [KPc.int_text {type:=100} rfl (.inl rfl) rfl h0,Int.natAbs_of_nonneg h0]
 exact h _
theorem Mp {d:Str}{Q:ForInStep FS->Shared->Prop}(h:Q (.yield (p,w.add d none,r)) s):wpAny M A (Vb w p r (d.cps.toList,none,true)) Q E s:=by
 refine br ?_
 show Q (.yield (p,w.add ⟨_⟩ (if r.isEmpty=true then none else none),r)) s
 rw [ite_self,Array.toArray_toList];exact h
theorem RF {W:World}(hp:PF f fin)(hl:l.length=k+1)(g:KPc.Good w T N)(hN:N<=16777216)(h0:0<=n)(h1:n<10^10)(hd:n.natAbs.log2<1920)
  (h:∀(l' :List Nat) w' q,l'.length=k->KPc.Good w' (T++Str.ofString (toString n)) (N+10)->wpAny (model prog W) A (forIn l' (p,w',r) (f o F' args b x m)) Q E {s with toks:=q}):wpAny (model prog W) A (forIn l (.int n u::p,w,37::100::r) (f o F' args b x m)) Q E s:=by
 cases l with
 |nil=>exact absurd hl.symm (Nat.succ_ne_zero k)
 |cons i l=>
  refine KPc.turn (vG (hp.i ..) (Gh g hN (ar (wpAny_holding (ar (cY (a:=n) rfl (Mi h0 hd λq=>Mp ?_)))))))
  exact h l _ _ (Nat.succ.inj hl) (KPc.good_mono (KPc.good_add g (KPc.obj_none rfl)) (Nat.add_le_add_left (toString_length_le h0 (by decide) h1) _))
theorem og {n:Int}(h0:0<=n)(h1:n<10^10):n.natAbs.log2<1920:=by
 have:n.natAbs<2^1920:=Nat.lt_of_lt_of_le (show n.natAbs<10^10 by lia) (by decide+kernel)
 by_cases q:n.natAbs=0
 ·rw [q];decide+kernel
 ·exact (Nat.log2_lt q).mpr this
theorem M8 {prog:Program}{W:World}{i:Int}{u tk:Tok}{Q:Fin->Shared->Prop}(h0:0<=i)(h1:i<10^10)(hd:i.natAbs.log2<1920)
  (h:∀t' k,Q (.done (.ret (.str (Str.empty++⟨(sL "no command is of kind ").toArray⟩++Str.ofString (toString i)) t'))) {s with toks:=k}):wpAny (model prog W) A («str.__mod__» ⟨[.str FK tk, .int i u], []⟩) Q E s:=by
 rw [KPc.entry_is]
 refine pf.elim λf z=>z.elim λfin z=>vG (z.1 _ _ _).symm ?_
 refine ar (wpAny_isInstance (typeIs_int _ _ _) F.sub_int_tuple ?_)
 refine ar (cY (a:=none) rfl ?_)
 refine ar (cY (KPc.fills _ _) ?_)
 refine wpAny_ite (KPc.ite_no Bool.false_ne_true ?_)
 refine ar (br ?_)
 refine ar ?_
 rw [KPc.range_list]
 refine Tm z.2.a (k:=23) (by rw [List.length_range'];kernel_rfl) KPc.good0 (by decide) λl1 w1 e1 g1=> ?_
 refine RF z.2 e1 g1 (by decide+kernel) h0 h1 hd λl2 w2 q e2 g2=> ?_
 have e:0+(⟨(sL "no command is of kind ").toArray⟩:Str).length+10<=16777216:=by decide+kernel
 exact Vg z.2 e2 g2 e h
theorem EG {prog:Program}{w:World}{n:Int}{t u:Tok}{Q:Value->Shared->Prop}(h0:0<=n)(h1:n<10^10)(h:∀T t' k,Q (.str T t') {s with toks:=k}):wpAny (model prog w) A (binaryOp .Mod (.str (Str.ofString "no command is of kind %d") t) (.int n u)) Q E s:=by
 refine KPc.mod_int (X' :=FK) (by rfl) h0 h1 (T:=λi=>Str.empty++⟨(sL "no command is of kind ").toArray⟩++Str.ofString (toString i)) ?_ λt' k=>h _ t' k
 intro i h0 h1 hd _
 refine KPc.meets_of ?_
 intro _ _ _ _ _ _ h
 exact M8 h0 h1 hd h
theorem MZ {prog:Program}{W:World}{i j:Int}{D:Addr}{u v tk:Tok}{Q:Fin->Shared->Prop}(ht:IsTup s.heap D #[.int i u, .int j v])(a0:0<=i)(a1:i<10^10)(ad:i.natAbs.log2<1920)(b0:0<=j)(b1:j<10^10)(bd:j.natAbs.log2<1920)
  (h:∀t' k,Q (.done (.ret (.str (Str.empty++⟨(sL "entry ").toArray⟩++Str.ofString (toString i)++⟨(sL " does not follow ").toArray⟩++Str.ofString (toString j)) t'))) {s with toks:=k}):wpAny (model prog W) A («str.__mod__» ⟨[.str FE tk, .ref D], []⟩) Q E s:=by
 obtain ⟨o,hg,hc,hn,hd⟩:=ht
 rw [KPt.entry_is_r]
 refine pf.elim λf z=>z.elim λfin z=>vG (z.1 _ _ _).symm ?_
 refine ar (wpAny_isInstance (T:= "tuple") ⟨o,hg,hc⟩ KPt.sub_tt ?_)
 refine ar (KPt.asStr_ref hg hd ?_)
 refine ar (KPt.fills_ref ⟨o,hg,hc⟩ λu8=> ?_)
 refine wpAny_ite (KPc.ite_yes rfl ?_)
 refine ar (wpAny_seqItems hg hd ?_)
 refine ar (br ?_)
 refine ar ?_
 rw [KPc.range_list]
 refine Tm z.2.b (k:=26) (by rw [List.length_range'];kernel_rfl) KPc.good0 (by decide) λl1 w1 e1 g1=> ?_
 refine RF z.2 e1 g1 (by decide+kernel) a0 a1 ad λl2 w2 q e2 g2=> ?_
 refine Tm z.2.c e2 g2 (by decide+kernel) λl1 w1 e1 g1=> ?_
 refine RF z.2 e1 g1 (by decide+kernel) b0 b1 bd λl2 w2 q e2 g2=> ?_
 have e:0+(⟨(sL "entry ").toArray⟩:Str).length+10+(⟨(sL " does not follow ").toArray⟩:Str).length+10<=16777216:=by decide+kernel
 exact Vg z.2 e2 g2 e h
theorem B5 {prog:Program}{w:World}{a b:Int}{h₀:Heap}{L:Addr}{ac:ao}{D:Addr}{t u v:Tok}{Q:Value->Shared->Prop}(N:News h₀ L s.heap ac)(hm:(D,jH [.int a u, .int b v])∈ac)(a0:0<=a)(a1:a<10^10)(b0:0<=b)(b1:b<10^10)
  (h:∀T t' k,Q (.str T t') {s with toks:=k}):wpAny (model prog w) A (binaryOp .Mod (.str (Str.ofString "entry %d does not follow %d") t) (.ref D)) Q E s:=
 KPt.mod_tuple (X' :=FE) N hm (by rfl) (KPt.meets_tup λu8 u8 u8 u8 u8 u8 ht h=>MZ ht a0 a1 (og a0 a1) b0 b1 (og b0 b1) h) λt' k=>h _ t' k
end
end
section
variable {prog:Program}{w:World}{A:Around}{E:Value->Shared->Prop}{s:Shared}{env:Env}
theorem Ka {k:_}{f:Str}(hf:f.length<=1000)
  (h:aG (model prog w) A (eval v env) (λrv s₁=>∃n u,rv= .int n u/\0<=n/\n<10^10/\∀T t k,Q (.str T t) {s₁ with toks:=k}) E s):
  aG (model prog w) A (eval (.JoinedStr [.FormattedValue v (-1) none p, .Constant (.str f) k p2] pos) env) Q E s:=by
 rw [arm_eval_JoinedStr]
 show aG _ _ (joinParts Str.empty [eval (.FormattedValue v (-1) none p) env,eval (.Constant (.str f) k p2) env]) _ _ _
 rw [joinParts,arm_eval_FormattedValue]
 refine ag (ag (aA h λrv s₁ h₁=> ?_))
 refine x7 h₁ λn u dc h0 h1 hq=> ?_;clear h₁;subst dc
 refine ag (aB ?_)
 show aG _ _ (do let v'<-holding [.int n u] (pure (.int n u));formatField v' Str.empty) _ _ _
 refine ag (aD (aq ?_))
 have hd:=og h0 h1
 have len:(Str.ofString (toString n)).length<=100000:=cy (toString_length_le (k:=10) h0 (by decide) h1) (by decide)
 refine ap (wpAny_formatField_int hd ?_)
 refine ag (aq ?_)
 have e0:(Str.empty:Str).length=0:=rfl
 show aG _ _ (if Str.empty.length+(Str.ofString (toString n)).length>sizeLine then _ else _) _ _ _
 rw [if_neg (by rw [e0,eW];lia)]
 first
  |refine ag (aq ?_)
  |skip
 rw [joinParts]
 refine ag (ap (wpAny_Constant_str ?_))
 refine ag (aq ?_)
 have l2:(Str.empty++Str.ofString (toString n)).length=(Str.ofString (toString n)).length:=by rw [strLen_append,e0,Nat.zero_add]
 show aG _ _ (if (Str.empty++Str.ofString (toString n)).length+f.length>sizeLine then _ else _) _ _ _
 rw [if_neg (by rw [l2,eW];lia)]
 first
  |refine ag (aq ?_)
  |skip
 show aG _ _ (mkStr _) _ _ _
 exact ap (wpAny_mkStr (hq _ _ _) (by rw [strLen_append,l2,eW];lia))
end
theorem Na (h:∀t',Q (.int (-i) t') {s with toks:=s.toks+1}):wpAny (model prog w) A (unaryOp .USub (.int i t)) Q E s:=PyProof.Rows.neg_int (h _)
set_option maxHeartbeats 4000000
theorem Aw (h:dI [y]=true):∃i,y= .int i/\0<=i/\i<100000:=by
 cases y with
 |int i=>
  have:=jb (jb (show (decide (0<=i)&&decide (i<100000)&&true)=true from h)).1
  exact ⟨i,rfl,of_decide_eq_true this.1,of_decide_eq_true this.2⟩
 |_=>cases h
theorem Kg (h:dI (y::ys)=true):dI [y]=true/\dI ys=true:=by
 cases y with
 |int i=>
  have z:=jb (show (decide (0<=i)&&decide (i<100000)&&dI ys)=true from h)
  exact ⟨by show (decide (0<=i)&&decide (i<100000)&&true)=true;rw [z.1];rfl,z.2⟩
 |_=>cases h
section
variable {c:Cx}{d n k:Nat}{R:au}{v:CV}{env:Env}
theorem Bp (v1:av ac ah y ry)(h:bw av c m ac ah (if dI [y] then .ok .text H else .bad) Q E):
  ∃i u,y= .int i/\ry= .int i u/\0<=i/\i<100000/\bw av c m ac ah (.ok .text H) Q E:=by
 by_cases hi:dI [y]=true
 ·rw [if_pos hi] at h
  refine mq (Aw hi) λi gP h0 h1=> ?_;subst gP
  obtain ⟨u,rfl⟩:=aR v1
  exact ⟨i,u,rfl,rfl,h0,h1,h⟩
 ·rw [if_neg hi] at h
  exact h.elim
noncomputable abbrev R5 (c:Cx)(n k:Nat)(R:au)(v:CV)(env:Env)(x:Option Expr)(e:SE):Prop:=
 ∀{A:Around} {l:cR} {m:Str->Option Value} {ac:ao} {ah:dN} {H:HP} {s:Shared} {Q:Value->Shared->Prop} {E:Value->Shared->Prop},lN c n (k+1) A->gQ c v env l m ac ah->aV c m ac ah H s->
  bw av c m ac ah (bj c.P R e l H) Q E->aG (model c.prog c.w) A (valueOrNone (evalOpt x env)) Q E s
noncomputable abbrev Rv (c:Cx)(n k:Nat)(R:au)(v:CV)(env:Env)(xs:List Expr)(es:nH):Prop:=
 ∀{A:Around} {l:cR} {m:Str->Option Value} {ac:ao} {ah:dN} {H:HP} {s:Shared} {pos:Pos} {Q:Value->Shared->Prop} {E:Value->Shared->Prop},lN c n (k+1) A->gQ c v env l m ac ah->aV c m ac ah H s->
  bw av c m ac ah (Ho c.P R es l H) Q E->aG (model c.prog c.w) A (boolOp pos .And (evalEach xs env)) Q E s
noncomputable abbrev SZ (c:Cx)(n k:Nat)(R:au)(v:CV)(env:Env)(xs:List Expr)(es:nH):Prop:=
 ∀{A:Around} {l:cR} {m:Str->Option Value} {ac:ao} {ah:dN} {H:HP} {s:Shared} {pos:Pos} {Q:Value->Shared->Prop} {E:Value->Shared->Prop},lN c n (k+1) A->gQ c v env l m ac ah->aV c m ac ah H s->
  bw av c m ac ah (Mn c.P R es l H) Q E->aG (model c.prog c.w) A (boolOp pos .Or (evalEach xs env)) Q E s
noncomputable abbrev Mh (c:Cx)(n k:Nat)(R:au)(v:CV)(env:Env)(xs:List Expr)(es:nH):Prop:=
 ∀{A:Around} {l:cR} {m:Str->Option Value} {ac:ao} {ah:dN} {H:HP} {s:Shared} {Q:Bool->Shared->Prop} {E:Value->Shared->Prop},lN c n (k+1) A->gQ c v env l m ac ah->aV c m ac ah H s->
  bw xV c m ac ah (pg c.P R es l H) Q E->aG (model c.prog c.w) A (allTrue .And xs env) Q E s
noncomputable abbrev Ln (c:Cx)(n k:Nat)(R:au)(v:CV)(env:Env)(xs:List Expr)(es:nH):Prop:=
 ∀{A:Around} {l:cR} {m:Str->Option Value} {ac:ao} {ah:dN} {H:HP} {s:Shared} {Q:Bool->Shared->Prop} {E:Value->Shared->Prop},lN c n (k+1) A->gQ c v env l m ac ah->aV c m ac ah H s->
  bw xV c m ac ah (qX c.P R es l H) Q E->aG (model c.prog c.w) A (allTrue .Or xs env) Q E s
theorem M7 (ok:c.Ok d){x p i}(h1:eg v x=true)(h2:c.S.glob.lookup x=some (.int i)):lH c n k R v env (.Name x p) (.int i):=λhA he hn h=>by
 obtain ⟨t,z⟩:=ok.mW.NP _ _ h2
 exact ap (he.Nu _ _ h1 z _ _ _ _ _ _ _ _ hn (h _ _ _ _ hn bq.refl (.int _ _)))
theorem FV (ok:c.Ok d){x p b}(h1:eg v x=true)(h2:c.S.glob.lookup x=some (.bytes b)):lH c n k R v env (.Name x p) (.bytes b):=λhA he hn h=>by
 refine j8 (ok.mW.El _ _ h2) λdp t z z1 z2=> ?_
 exact ap (he.Nu _ _ h1 z _ _ _ _ _ _ _ _ hn (h _ _ _ _ hn bq.refl (.bytes _ _ z1 z2)))
theorem Pg (ok:c.Ok d){o j p a i}(h1:stop j=false)(ia:lH c n k R v env o a)(ii:lH c n k R v env j i):lH c n k R v env (.Subscript o j p) (.sub a i):=λhA he hn h=>
 Mg (ia hA he hn (bw.bind h λy H1 n1 l1 s1 ry cN X1 v1 gp=>ii hA (he.ext X1) cN (bw.bind gp λz H2 n2 l2 s2 rz fK X2 v2 kf=>SC ok fK h1 (v1.ext X2) v2 kf)))
theorem Jy (ok:c.Ok d){o l' h' q p a lo hi}(ia:lH c n k R v env o a)(il:R5 c n k R v env l' lo)(ih:R5 c n k R v env h' hi):lH c n k R v env (.Subscript o (.Slice l' h' none q) p) (.slice a lo hi):=λhA he hn h=>
 Mg (ia hA he hn (bw.bind h λy H1 n1 l1 s1 ry cN X1 v1 gp=>Fh (il hA (he.ext X1) cN (bw.bind gp λz H2 n2 l2 s2 rz fK X2 v2 kf=>ih hA ((he.ext X1).ext X2) fK (bw.bind kf λw H3 n3 l3 s3 UM rK X3 v3 Fz=>Mk ok rK ((v1.ext X2).ext X3) (v2.ext X3) v3 Fz)))))
theorem OP (ok:c.Ok d){l' r p op a b}(ia:lH c n k R v env l' a)(ib:lH c n k R v env r b):lH c n k R v env (.BinOp l' (lK op) r p) (.bin op a b):=λhA he hn h=>
 JP (ia hA he hn (bw.bind h λy H1 n1 l1 s1 ry cN X1 v1 gp=>ib hA (he.ext X1) cN (bw.bind gp λz H2 n2 l2 s2 rz fK X2 v2 kf=>RI ok fK (v1.ext X2) v2 kf)))
theorem PO {x p a}(ia:lH c n k R v env x a):lH c n k R v env (.UnaryOp .USub x p) (.neg a):=λhA he hn h=>
 Ll (ia hA he hn (bw.bind h λy H1 n1 l1 s1 ry cN X1 v1 gp=>by
  cases v1 with
  |int i t=>exact ap (Na λt' =>gp _ _ _ _ (cN.toks _) bq.refl (.int _ _))
  |_=>exact gp.elim))
theorem NK {l' r p op a b}(h1:stop r=false)(ia:lH c n k R v env l' a)(ib:lH c n k R v env r b):lH c n k R v env (.Compare l' [sr op] [r] p) (.cmp op a b):=λhA he hn h=>
 TN (ia hA he hn (bw.bind h λy H1 n1 l1 s1 ry cN X1 v1 gp=>ib hA (he.ext X1) cN (bw.bind gp λz H2 n2 l2 s2 rz fK X2 v2 kf=>N6 (f:=λr H=> .ok (.bool r) H) hA fK (v1.ext X2) v2 kf))) ((pl r).marks h1 _)
theorem LN {l' r p op a b}(h1:stop r=false)(ia:lH c n k R v env l' a)(ib:lH c n k R v env r b):HQ c n k R v env (.Compare l' [sr op] [r] p) (.cmp op a b):=λhA he hn h=>
 Fv (ia hA he hn (bw.bind h λy H1 n1 l1 s1 ry cN X1 v1 gp=>ib hA (he.ext X1) cN (bw.bind gp λz H2 n2 l2 s2 rz fK X2 v2 kf=>by
  refine N6 (f:=λr H=> .ok (.bool r) H) hA fK (v1.ext X2) v2 ?_
  cases q:bU op y z H2 with
  |none=>rw [q] at kf;exact kf.elim
  |some r=>
   rw [q] at kf
   intro n3 l3 s3 rx rK X3 v3
   cases v3
   exact ap (vq rK (.bool r) rfl λt=>kf _ _ _ _ (rK.toks t) X3 rfl)))) ((pl r).marks h1 _)
theorem Mj {x p a}(ia:HQ c n k R v env x a):HQ c n k R v env (.UnaryOp .Not x p) (.not a):=λhA he hn h=>
 Ef (ia hA he hn (bw.bind h λy H1 n1 l1 s1 ry cN X1 v1 gp=>by cases v1;exact gp _ _ _ _ cN bq.refl rfl))
theorem N8 {x y z p a b e}(i1:HQ c n k R v env x a)(i2:lH c n k R v env y b)(i3:lH c n k R v env z e):lH c n k R v env (.IfExp x y z p) (.ite a b e):=λhA he hn h=>
 RW (i1 hA he hn (bw.bind h λy H1 n1 l1 s1 ry cN X1 v1 gp=>by
  cases v1
  cases y with
  |true=>exact i2 hA (he.ext X1) cN gp
  |false=>exact i3 hA (he.ext X1) cN gp))
theorem Sv {xs es}(hc:Sh xs es)(ih:uF c n k R v env xs es)(hA:lN c n (k+1) A)(he:gQ c v env l m ac ah)(hn:aV c m ac ah H s)
  (h:bw (λn l vs rs=>aH n l vs rs) c m ac ah (dK c.P R es l H) (λrs s=>rs.length=xs.length->Q rs s) E):aG (model c.prog c.w) A (spliced (backTo pos (starEach xs env))) Q E s:=by
 refine ih hA he hn ?_
 cases q:dK c.P R es l H with
 |ok vs H' =>
  rw [q] at h
  intro n' l' s' rx je X' V'
  exact h n' l' s' rx je X' V' (by rw [<-V'.length];exact hc.len q)
 |exc j H' =>rw [q] at h;exact h
 |bad=>rw [q] at h;exact h
theorem Ba {α β:Type}{ys:List α}{xs:List β}(h1:xs.length<=30)(h2:n=ys.length)(h3:ys.length=xs.length):n<=big:=by
 rw [h2,h3]
 exact cy h1 (by decide)
theorem JC {xs q p es}(h1:xs.length<=30)(hc:Sh xs es)(ih:uF c n k R v env xs es):lH c n k R v env (.Tuple xs q p) (.tuple es):=λhA he hn h=>
 DS (Sv hc ih hA he hn (bw.bind h λy H1 n1 l1 s1 ry cN X1 v1 gp hl=>Fg cN v1 (Ba h1 v1.length hl) gp))
theorem M3 {xs p es}(h1:xs.length<=30)(hc:Sh xs es)(ih:uF c n k R v env xs es):lH c n k R v env (.List xs p) (.list es):=λhA he hn h=>
 P7 (Sv hc ih hA he hn (bw.bind h λy H1 n1 l1 s1 ry cN X1 v1 gp hl=>Ol cN v1 (Ba h1 v1.length hl) gp))
theorem MO {kk q xs j r p es}(h1:xs.length=2)(hc:Sh xs es)(ih:uF c n k R v env xs es):lH c n k R v env (.BinOp (.Constant (.str "entry %d does not follow %d") kk q) .Mod (.Tuple xs j r) p) (.AH es):=λhA he hn h=>by
 refine JP (ap (wpAny_Constant_str ?_))
 refine DS (Sv hc ih hA he (hn.toks _) (bw.bind h λy H1 n1 l1 s1 ry cN X1 v1 gp hl=> ?_))
 by_cases hi:dI y=true
 ·rw [if_pos hi] at gp
  cases v1 with
  |nil=>rw [h1] at hl;exact Og hl
  |cons c1 v1=>
   cases v1 with
   |nil=>rw [h1] at hl;cases hl
   |cons c2 v1=>
    cases v1 with
    |cons c3 v1=>rw [h1] at hl;cases hl
    |nil=>
     obtain ⟨i1,i2⟩:=Kg hi
     refine mq (Aw i1) λa gP a0 a1=> ?_;subst gP
     refine mq (Aw i2) λb gP b0 b1=> ?_;subst gP
     obtain ⟨u,rfl⟩:=aR c1
     obtain ⟨w,rfl⟩:=aR c2
     refine Fg cN (.cons c1 (.cons c2 .nil)) (show 2<=4096 by decide) λn2 l2 s2 rx fK X2 v2=> ?_
     cases v2 with
     |tuple hm nG _=>
      cases nG with
      |cons c1 nG=>
       cases nG with
       |cons c2 nG=>
        cases nG
        obtain ⟨u',rfl⟩:=aR c1
        obtain ⟨w',rfl⟩:=aR c2
        refine fK.gE λg T F N=> ?_
        exact ap (B5 N hm a0 (by exact iB ‹_› rfl) b0 (by exact iB ‹_› rfl) λT t' k=>gp _ _ _ _ (fK.toks k) X2 (.text _ _))
 ·rw [if_neg hi] at gp
  exact gp.elim
theorem Ng {kk q x p a}(ia:lH c n k R v env x a):lH c n k R v env (.BinOp (.Constant (.str "no command is of kind %d") kk q) .Mod x p) (.xK a):=λhA he hn h=>
 JP (ap (wpAny_Constant_str (ia hA he (hn.toks _) (bw.bind h λy H1 n1 l1 s1 ry cN X1 v1 gp=>by
  refine LL (Bp v1 gp) λi u dc wI i0 i1 hq=> ?_;subst dc;subst wI
  exact ap (EG i0 (by exact iB ‹_› rfl) λT t' k=>hq _ _ _ _ (cN.toks k) bq.refl (.text _ _))))))
theorem Ma {x q kk r p a}(ia:lH c n k R v env x a):lH c n k R v env (.JoinedStr [.FormattedValue x (-1) none q, .Constant (.str " octets are left over") kk r] p) (.zU a):=λhA he hn h=>
 Ka (by decide) (ia hA he hn (bw.bind h λy H1 n1 l1 s1 ry cN X1 v1 gp=>by
  refine LL (Bp v1 gp) λi u dc wI i0 i1 hq=> ?_;subst dc;subst wI
  exact ⟨i,u,rfl,i0,by exact iB ‹_› rfl,λT t' k=>hq _ _ _ _ (cN.toks k) bq.refl (.text _ _)⟩))
theorem LH (ok:c.Ok d){x p i}(h1:gh v x i=true):HQ c n k R v env (.Name x p) (.loc i):=λ{A l m ac ah H s Q E} hA he hn h=>by
 refine Bj (R:=R) rfl (Hh ok h1) hA he hn ?_
 change bw xV c m ac ah (match l[i]? with|some (some v)=>ff (eP v H) H|_=> .bad) Q E at h
 change bw xV c m ac ah ((match l[i]? with|some (some v)=>du.ok v H|_=> .bad:du SV).bind _) Q E
 generalize l[i]? =o at*
 cases o with
 |none=>exact h.elim
 |some o=>cases o with
  |none=>exact h.elim
  |some v=>exact h
theorem SU {x xs e es}(h1:stop x=false)(ie:lH c n k R v env x e)(ir:uF c n k R v env xs es):uF c n k R v env (x::xs) (.cons e es):=λhA he hn h=>
 xv (h1) (ie hA he hn (bw.bind h λy H1 n1 l1 s1 ry cN X1 v1 gp=>ir hA (he.ext X1) cN (bw.bind gp λys H2 n2 l2 s2 Zl fK X2 v2 kf=>kf _ _ _ _ fK bq.refl (.cons (v1.ext X2) v2))))
theorem N5 {x xs e es}(hc:Sh xs es)(ie:lH c n k R v env x e)(ir:Rv c n k R v env xs es):Rv c n k R v env (x::xs) (.cons e es):=λhA he hn h=>by
 cases hc.k with
 |nil=>exact u5 (ie hA he hn h)
 |cons x' xs e' r=>
  refine vA (ie hA he hn (bw.bind h λy H1 n1 l1 s1 ry cN X1 v1 gp=>vT cN v1 (bw.bind gp λt H2 n2 l2 s2 rt fK X2 v2 kf=> ?_)))
  cases v2
  cases t with
  |true=>exact ir hA ((he.ext X1).ext X2) fK kf
  |false=>exact kf _ _ _ _ fK bq.refl (v1.ext X2)
theorem RK {x xs e es}(hc:Sh xs es)(ie:lH c n k R v env x e)(ir:SZ c n k R v env xs es):SZ c n k R v env (x::xs) (.cons e es):=λhA he hn h=>by
 cases hc.k with
 |nil=>exact u5 (ie hA he hn h)
 |cons x' xs e' r=>
  refine vA (ie hA he hn (bw.bind h λy H1 n1 l1 s1 ry cN X1 v1 gp=>vT cN v1 (bw.bind gp λt H2 n2 l2 s2 rt fK X2 v2 kf=> ?_)))
  cases v2
  cases t with
  |false=>exact ir hA ((he.ext X1).ext X2) fK kf
  |true=>exact kf _ _ _ _ fK bq.refl (v1.ext X2)
theorem OQ {x xs e es}(ie:HQ c n k R v env x e)(ir:Mh c n k R v env xs es):Mh c n k R v env (x::xs) (.cons e es):=λhA he hn h=>
 xL (ie hA he hn (bw.bind h λt H1 n1 l1 s1 rt cN X1 v1 gp=>by
  cases v1
  cases t with
  |true=>exact ir hA (he.ext X1) cN gp
  |false=>exact gp _ _ _ _ cN bq.refl rfl))
theorem PE {x xs e es}(ie:HQ c n k R v env x e)(ir:Ln c n k R v env xs es):Ln c n k R v env (x::xs) (.cons e es):=λhA he hn h=>
 xL (ie hA he hn (bw.bind h λt H1 n1 l1 s1 rt cN X1 v1 gp=>by
  cases v1
  cases t with
  |false=>exact ir hA (he.ext X1) cN gp
  |true=>exact gp _ _ _ _ cN bq.refl rfl))
theorem XQ {x e}(h:∀l H,gK c.P R e l H= .bad):HQ c n k R v env x e:=λhA he hn z=>by
 rw [h] at z
 exact z.elim
structure GO (c:Cx)(n k:Nat)(R:au)(v:CV)(env:Env)(x:Expr)(e:SE):Prop where
 E:lH c n k R v env x e
 T:HQ c n k R v env x e
structure TZ (c:Cx)(n k:Nat)(R:au)(v:CV)(env:Env)(xs:List Expr)(es:nH):Prop where
 ev:uF c n k R v env xs es
 and:Rv c n k R v env xs es
 or:SZ c n k R v env xs es
 all:Mh c n k R v env xs es
 any:Ln c n k R v env xs es
theorem GO.val {x e}(h:lH c n k R v env x e)(z:∀l H,gK c.P R e l H= .bad):GO c n k R v env x e:=⟨h,XQ z⟩
theorem GO.tr {x e}(h:lH c n k R v env x e)(hp:mO x=true)(z:∀l H,gK c.P R e l H=(bj c.P R e l H).bind λv H=>ff (eP v H) H):GO c n k R v env x e:=⟨h,λhA he hn q=>Bj hp h hA he hn (by rw [z] at q;exact q)⟩
structure Ck (S:lu)(v:CV)(x:Expr)(e:SE):Prop where
 s:∀{c:Cx} {d n k:Nat} {R:au} {env:Env},c.Ok d->d8 c n R->c.S=S->GO c n k R v env x e
structure HR (S:lu)(v:CV)(x:Option Expr)(e:SE):Prop where
 s:∀{c:Cx} {d n k:Nat} {R:au} {env:Env},c.Ok d->d8 c n R->c.S=S->R5 c n k R v env x e
structure zf (S:lu)(v:CV)(xs:List Expr)(es:nH):Prop where
 sh:Sh xs es
 s:∀{c:Cx} {d n k:Nat} {R:au} {env:Env},c.Ok d->d8 c n R->c.S=S->TZ c n k R v env xs es
end
section
variable {S:lu}{v:CV}
theorem Ck.none (k p):Ck S v (.Constant .none k p) .none:=⟨λok RS hS=> .val (λhA he hn h=>ap (Constant_none (h _ _ _ _ hn bq.refl .none))) λu8 u8=>rfl⟩
theorem Ck.bool (b k p):Ck S v (.Constant (.bool b) k p) (.bool b):=⟨λok RS hS=> .tr (λhA he hn h=>ap (Constant_bool (h _ _ _ _ hn bq.refl (.bool _)))) rfl λu8 u8=>rfl⟩
theorem Ck.int (i k p):Ck S v (.Constant (.int i) k p) (.int i):=⟨λok RS hS=> .val (λhA he hn h=>ap (wpAny_Constant_int (h _ _ _ _ (hn.toks _) bq.refl (.int _ _)))) λu8 u8=>rfl⟩
theorem Ck.SR (x p i)(h1:eg v x=true)(h2:S.glob.lookup x=Option.some (.int i)):Ck S v (.Name x p) (.int i):=⟨λok RS hS=> .val (M7 ok h1 (hS▸h2)) λu8 u8=>rfl⟩
theorem Ck.bytes (b k p)(h:(b.map λc=>(c.toNat:Int)).length<=big):Ck S v (.Constant (.bytes b) k p) (.bytes (b.map λc=>(c.toNat:Int))):=⟨λok RS hS=> .val (λhA he hn q=>ap (Constant_bytes (q _ _ _ _ (hn.toks _) bq.refl (.bytes _ _ (KBw.ints_list _) h)))) λu8 u8=>rfl⟩
theorem Ck.M9 (x p b)(h1:eg v x=true)(h2:S.glob.lookup x=Option.some (.bytes b)):Ck S v (.Name x p) (.bytes b):=⟨λok RS hS=> .val (FV ok h1 (hS▸h2)) λu8 u8=>rfl⟩
theorem Ck.text (s k p):Ck S v (.Constant (.str s) k p) .text:=⟨λok RS hS=> .val (λhA he hn h=>ap (wpAny_Constant_str (h _ _ _ _ (hn.toks _) bq.refl (.text _ _)))) λu8 u8=>rfl⟩
theorem Ck.loc (x p i)(h:gh v x i=true):Ck S v (.Name x p) (.loc i):=⟨λok RS hS=>⟨Hh ok h,LH ok h⟩⟩
theorem Ck.attr (o p a k)(h1:jV o=true)(h2:Ck S v o a):Ck S v (.Attribute o (S.attr k) p) (.attr a k):=⟨λok RS hS=>hS▸ .tr (λhA he hn h=>Qu h1 ((h2.s ok RS hS).E hA he hn (bw.bind h λy H1 n1 l1 s1 ry cN X1 v1 h1=>Kt ok cN v1 h1))) rfl λu8 u8=>rfl⟩
theorem Ck.sub (o j p a i)(h1:stop j=false)(h2:Ck S v o a)(h3:Ck S v j i):Ck S v (.Subscript o j p) (.sub a i):=⟨λok RS hS=> .val (Pg ok h1 (h2.s ok RS hS).E (h3.s ok RS hS).E) λu8 u8=>rfl⟩
theorem Ck.slice (o l h q p a lo hi)(h1:Ck S v o a)(h2:HR S v l lo)(h3:HR S v h hi):Ck S v (.Subscript o (.Slice l h Option.none q) p) (.slice a lo hi):=⟨λok RS hS=> .val (Jy ok (h1.s ok RS hS).E (h2.s ok RS hS) (h3.s ok RS hS)) λu8 u8=>rfl⟩
theorem Ck.bin (l r p op a b)(h1:Ck S v l a)(h2:Ck S v r b):Ck S v (.BinOp l (lK op) r p) (.bin op a b):=⟨λok RS hS=> .val (OP ok (h1.s ok RS hS).E (h2.s ok RS hS).E) λu8 u8=>rfl⟩
theorem Ck.neg (x p a)(h:Ck S v x a):Ck S v (.UnaryOp .USub x p) (.neg a):=⟨λok RS hS=> .val (PO (h.s ok RS hS).E) λu8 u8=>rfl⟩
theorem Ck.cmp (l r p op a b)(h1:stop r=false)(h2:Ck S v l a)(h3:Ck S v r b):Ck S v (.Compare l [sr op] [r] p) (.cmp op a b):=⟨λok RS hS=>⟨NK h1 (h2.s ok RS hS).E (h3.s ok RS hS).E,LN h1 (h2.s ok RS hS).E (h3.s ok RS hS).E⟩⟩
theorem Ck.and (xs p es)(h:zf S v xs es):Ck S v (.BoolOp .And xs p) (.and es):=⟨λok RS hS=>⟨λhA he hn q=>by rw [arm_eval_BoolOp];exact (h.s ok RS hS).and hA he hn q,λhA he hn q=>vF ((h.s ok RS hS).all hA he hn q)⟩⟩
theorem Ck.or (xs p es)(h:zf S v xs es):Ck S v (.BoolOp .Or xs p) (.or es):=⟨λok RS hS=>⟨λhA he hn q=>by rw [arm_eval_BoolOp];exact (h.s ok RS hS).or hA he hn q,λhA he hn q=>vF ((h.s ok RS hS).any hA he hn q)⟩⟩
theorem Ck.not (x p a)(h:Ck S v x a):Ck S v (.UnaryOp .Not x p) (.not a):=⟨λok RS hS=>⟨λhA he hn h=>h.elim,Mj (h.s ok RS hS).T⟩⟩
theorem Ck.ite (x y z p a b c)(h1:Ck S v x a)(h2:Ck S v y b)(h3:Ck S v z c):Ck S v (.IfExp x y z p) (.ite a b c):=⟨λok RS hS=> .val (N8 (h1.s ok RS hS).T (h2.s ok RS hS).E (h3.s ok RS hS).E) λu8 u8=>rfl⟩
theorem Ck.tuple (xs k p es)(h1:xs.length<=30)(h2:zf S v xs es):Ck S v (.Tuple xs k p) (.tuple es):=⟨λok RS hS=> .val (JC h1 h2.sh (h2.s ok RS hS).ev) λu8 u8=>rfl⟩
theorem Ck.list (xs p es)(h1:xs.length<=30)(h2:zf S v xs es):Ck S v (.List xs p) (.list es):=⟨λok RS hS=> .val (M3 h1 h2.sh (h2.s ok RS hS).ev) λu8 u8=>rfl⟩
theorem Ck.aM (p):Ck S v (.Dict [] [] p) .aM:=⟨λok RS hS=> .val (λhA he hn h=>Lk ok hn h) λu8 u8=>rfl⟩
theorem Ck.fT (x q xs p f es)(h1:eg v x=true)(h2:S.glob.lookup x=Option.some (.fn f))(h3:zf S v xs es):Ck S v (.Call (.Name x q) xs [] p) (.fT f es):=⟨λok RS hS=> .tr (λhA he hn h=>(n9 ok RS h1 h3.sh (h3.s ok RS hS).ev hA he hn).1 _ (hS▸h2) h) rfl λu8 u8=>rfl⟩
theorem Ck.callC (x q xs p f es)(h1:eg v x=true)(h2:S.glob.lookup x=Option.some (.cls f))(h3:zf S v xs es):Ck S v (.Call (.Name x q) xs [] p) (.callC f es):=⟨λok RS hS=> .val (λhA he hn h=>(n9 ok RS h1 h3.sh (h3.s ok RS hS).ev hA he hn).2.1 _ (hS▸h2) h) λu8 u8=>rfl⟩
theorem Ck.bH (x q xs p f es)(h1:eg v x=true)(h2:S.glob.lookup x=Option.some (.bi f))(h3:zf S v xs es):Ck S v (.Call (.Name x q) xs [] p) (.bH f es):=⟨λok RS hS=> .val (λhA he hn h=>(n9 ok RS h1 h3.sh (h3.s ok RS hS).ev hA he hn).2.2 _ (hS▸h2) h) λu8 u8=>rfl⟩
theorem Ck.ez (o q xs p a n es)(h1:jV o=true)(h2:xs.length<30)(h3:q.endLine=p.line)(h4:Ck S v o a)(h5:zf S v xs es):Ck S v (.Call (.Attribute o (S.attr n) q) xs [] p) (.ez a n es):=⟨λok RS hS=>hS▸ .tr (λhA he hn h=>Lr ok RS h1 h2 (beq_iff_eq.mpr h3) h5.sh (h4.s ok RS hS).E (h5.s ok RS hS).ev hA he hn h) rfl λu8 u8=>rfl⟩
theorem Ck.AH (k q xs j r p es)(h1:xs.length=2)(h2:zf S v xs es):Ck S v (.BinOp (.Constant (.str "entry %d does not follow %d") k q) .Mod (.Tuple xs j r) p) (.AH es):=⟨λok RS hS=> .val (MO h1 h2.sh (h2.s ok RS hS).ev) λu8 u8=>rfl⟩
theorem Ck.xK (k q x p a)(h:Ck S v x a):Ck S v (.BinOp (.Constant (.str "no command is of kind %d") k q) .Mod x p) (.xK a):=⟨λok RS hS=> .val (Ng (h.s ok RS hS).E) λu8 u8=>rfl⟩
theorem Ck.zU (x q k r p a)(h:Ck S v x a):Ck S v (.JoinedStr [.FormattedValue x (-1) Option.none q, .Constant (.str " octets are left over") k r] p) (.zU a):=⟨λok RS hS=> .val (Ma (h.s ok RS hS).E) λu8 u8=>rfl⟩
theorem HR.none:HR S v .none .none:=⟨λok RS hS=>λhA he hn h=>KE (h _ _ _ _ hn bq.refl .none)⟩
theorem HR.some (x e)(h:Ck S v x e):HR S v (Option.some x) e:=⟨λok RS hS=>λhA he hn q=>KE ((h.s ok RS hS).E hA he hn q)⟩
theorem zf.nil:zf S v [] .nil:=⟨.nil,λok RS hS=>⟨λhA he hn h=>AZ (h _ _ _ _ hn bq.refl .nil),λhA he hn h=>h.elim,λhA he hn h=>h.elim,λhA he hn h=>AR (h _ _ _ _ hn bq.refl rfl),λhA he hn h=>AR (h _ _ _ _ hn bq.refl rfl)⟩⟩
theorem zf.cons (x xs e es)(h1:stop x=false)(h2:Ck S v x e)(h3:zf S v xs es):zf S v (x::xs) (.cons e es):=⟨.cons h1 h3.sh,λok RS hS=>⟨SU h1 (h2.s ok RS hS).E (h3.s ok RS hS).ev,N5 h3.sh (h2.s ok RS hS).E (h3.s ok RS hS).and,RK h3.sh (h2.s ok RS hS).E (h3.s ok RS hS).or,OQ (h2.s ok RS hS).T (h3.s ok RS hS).all,PE (h2.s ok RS hS).T (h3.s ok RS hS).any⟩⟩
end
section
variable {c:Cx}{d n k:Nat}{R:au}{v:CV}{env:Env}
theorem gc (ok:c.Ok d)(RS:d8 c n R)(e:SE)(x:Expr)(h:Ck c.S v x e):lH c n k R v env x e:=(h.s ok RS rfl).E
theorem Gy (ok:c.Ok d)(RS:d8 c n R)(e:SE)(x:Expr)(h:Ck c.S v x e):HQ c n k R v env x e:=(h.s ok RS rfl).T
end
inductive DD:List Expr->List Str->Prop where
 |nil:DD [] []
 |cons (x p es xs) (t:DD es xs):DD (.Name x p::es) (x::xs)
inductive CN (v:CV):List Expr->List Nat->Prop where
 |nil:CN v [] []
 |cons (x p i es is) (h:v.ot.lookup x=some i) (t:CN v es is):CN v (.Name x p::es) (i::is)
inductive CT (v:CV):Expr->List Nat->Prop where
 |name (x p i) (h:v.ot.lookup x=some i):CT v (.Name x p) [i]
 |tup (es k p is) (h1:es.length≠1) (h2:CN v es is):CT v (.Tuple es k p) is
theorem DD.each {env:Env}(h:DD es xs):(assignEach es env).length=es.length/\(assignEach es env).findIdx? (·.1)=none/\(assignEach es env).map (·.2)=es.map λt=>assign t env:=by
 induction h with
 |nil=>exact ⟨rfl,rfl,rfl⟩
 |cons x p es xs t ih=>
  refine rB ih λa b d=> ?_;clear ih
  rw [show assignEach (.Name x p::es) env=(false,assign (.Name x p) env)::assignEach es env from rfl]
  exact ⟨congrArg (·+1) a,by rw [List.findIdx?_cons,b];rfl,by rw [dZ,dZ,d]⟩
theorem CN.Xy (h:CN v es is):∃xs,DD es xs:=by
 induction h with
 |nil=>exact ⟨_, .nil⟩
 |cons x p i es is h t ih=>exact ih.elim λxs n=>⟨_, .cons x p es xs n⟩
theorem CN.len (h:CN v es is):es.length=is.length:=by
 induction h with
 |nil=>rfl
 |cons x p i es is h t ih=>exact congrArg (·+1) ih
theorem Dt (h:is.length≠1)(e:kH l is u=some l'):∃vs,u= .tuple vs/\is.length=vs.length/\l' =dJ l is vs:=by
 have two:∀HL:List Nat,kH l HL u=some l'->HL.length≠1->(∀vs,u= .tuple vs->kH l HL u=if HL.length=vs.length then some (dJ l HL vs) else none)->∃vs,u= .tuple vs/\HL.length=vs.length/\l' =dJ l HL vs:=λHL e h k=>by
  have bad:(∀vs,u≠ .tuple vs)->kH l HL u=none:=λz=>by
   cases HL with
   |nil=>cases u with
    |tuple vs=>exact absurd rfl (z vs)
    |_=>rfl
   |cons i r=>cases r with
    |nil=>exact absurd rfl h
    |cons j r=>cases u with
     |tuple vs=>exact absurd rfl (z vs)
     |_=>rfl
  by_cases q:∃vs,u= .tuple vs
  ·obtain ⟨vs,q⟩:=q
   rw [k vs q] at e
   split at e
   ·exact ⟨vs,q,‹_›,(cq e).symm⟩
   ·exact fe e
  ·rw [bad λvs z=>q ⟨vs,z⟩] at e;exact fe e
 refine two is e h λvs q=> ?_
 subst q
 cases is with
 |nil=>rfl
 |cons i r=>cases r with
  |nil=>exact absurd rfl h
  |cons j r=>rfl
section
variable {c:Cx}{d n k:Nat}{m:Str->Option Value}{ac:ao}{ah:dN}{H:HP}{s:Shared}{v:CV}{l:cR}{A:Around}{E:Value->Shared->Prop}
theorem aV.grown (hn:aV c m ac ah H s){t:Nat}(hk:∀b o,s.heap.get? b=some o->h'.get? b=some o):aV c m ac ah H {s with heap:=h',toks:=t}:=by
 obtain ⟨⟨g,T,F,N⟩,nd,hr,ce,sh⟩:=hn
 exact ⟨⟨g,T,F.keeps hk,N.keeps hk⟩,nd,hr,ce,sh⟩
set_option tactic.hygienic true in
theorem vO (ok:c.Ok d)(V:sy c v)(h:CN v es is):∀{vs:List SV} {rs:List Value} {l:cR} {m:Str->Option Value} {ac:ao} {s:Shared} {Q:Unit->Shared->Prop},aH ac ah vs rs->is.length=vs.length->aV c m ac ah H s->bC c v l m ac ah->
  (∀m' az s',aV c m' az ah H s'->bq c.X ac ah az ah->bC c v (dJ l is vs) m' az ah->Q () s')->wpAny (model c.prog c.w) A (assignInOrder (es.map λt=>assign t c.env) rs) Q E s:=by
 induction h with
 |nil=>
  intro vs rs l m ac s Q hv hl hn hL q
  cases hv with
  |nil=>exact br (q m ac s hn bq.refl hL)
  |cons _ _=>exact Og hl
 |cons x p i es is hx t ih=>
  intro vs rs l m ac s Q hv hl hn hL q
  cases hv with
  |nil=>exact Vv hl
  |cons h1 h2=>
   rename_i u ru us ZC
   refine ar (wpAny_holding (show wpAny _ _ (do standAt p;bindName c.env x ru) _ _ _ from ar (wpAny_standAt (jt ok V hn hL hx h1 λm' az s' je X' Gv=> ?_))))
   exact ih (h2.ext X') (Nat.succ.inj hl) je Gv λm2 n2 s2 fK X2 uz=>q m2 n2 s2 fK (X'.trans X2) uz
theorem yz (ok:c.Ok d)(V:sy c v)(hh:A.handled=none)(hn:aV c m ac ah H s)(hL:bC c v l m ac ah){kk p}(hc:CN v es is)(hu:av ac ah (.tuple vs) ru)(hl:is.length=vs.length)
  (q:∀m' az s',aV c m' az ah H s'->bq c.X ac ah az ah->bC c v (dJ l is vs) m' az ah->Q () s'):wpAny (model c.prog c.w) A (assign (.Tuple es kk p) c.env ru) Q E s:=by
 refine x7 (cS hu) λaC a dc hm nG wH=> ?_;subst dc
 obtain ⟨xs,hx⟩:=hc.Xy
 refine rB (hx.each (env:=c.env)) λa1 a2 a3=> ?_
 have hT:IsTup s.heap a aC.toArray:=⟨_,hn.addr hm,rfl,_,rfl⟩
 refine assign_Tuple_tuple hh hT (by rw [a1,List.size_toArray,<-nG.length,<-hl,hc.len]) a2 λh' he=> ?_
 rw [a3]
 exact vO ok V hc nG hl (hn.grown (t:=s.toks) λb o e=>he b o (cV (Heap.lt_size e)) e) hL q
theorem LT (ok:c.Ok d)(V:sy c v)(hh:A.handled=none)(hn:aV c m ac ah H s)(hL:bC c v l m ac ah)(hc:CT v t is)(hu:av ac ah u ru)(hb:kH l is u=some l')
  (q:∀m' az s',aV c m' az ah H s'->bq c.X ac ah az ah->bC c v l' m' az ah->Q () s'):wpAny (model c.prog c.w) A (assign t c.env ru) Q E s:=by
 cases hc with
 |name x p i hx=>
  cases hb
  exact ar (wpAny_standAt (jt ok V hn hL hx hu q))
 |tup es k p is h1 h2=>
  refine mq (Dt (h2.len▸h1) hb) λvs gP hl wI=> ?_;subst gP;subst wI
  exact yz ok V hh hn hL h2 hu hl q
theorem bC.back (nd:(ac.map (·.1)).Nodup)(hm:(it,o)∈ac)(hd:∀x,o.data≠ .cell x)(hs:dV o=false)(h:bC c v l m ac ah):bC c v l m (eE it ac) ah:=by
 have X:bq [it] ac ah (eE it ac) ah:=⟨⟨[],(ch _).symm⟩,λp hp q=>bz.mpr ⟨hp,λe=>by
  have:p.2=o:=fb (a:=it) nd (by rw [<-e];exact hp) hm
  rw [this,hs] at q;exact yb q⟩,λp hp q z=>bz.mpr ⟨hp,λe=>z (by rw [e];simp)⟩⟩
 refine ⟨λy i val h1 h2 h3=>let ⟨rv,a,b⟩:=h.loc y i val h1 h2 h3;⟨rv,a,b.ext X⟩,λy i val h1 h2 h3=> ?_⟩
 refine HV (h.I4 y i val h1 h2 h3) λa ob rv a1 a2 a3 a4=> ?_
 refine ⟨a,ob,rv,a1,bz.mpr ⟨a2,λe=> ?_⟩,a3,a4.ext X⟩
 have:ob=o:=fb (a:=it) nd (by rw [<-(show a=it from e)];exact a2) hm
 exact hd _ (this▸a3)
end
noncomputable def P2 (Q:Flow->Shared->Prop):Result->Shared->Prop:=λr s' =>match r with
 | .ok f=>Q f s'
 | .error _=>False
section
variable {M:Model}{A:Around}{E:Value->Shared->Prop}{s:Shared}{env:Env}
theorem Bq (tw:tU c=true)(hc:fh M A c (P2 Q) s):aG M A (runOwn c env none) Q E s:=by
 unfold runOwn
 refine gn (I3 tw (n6 hc λr s' z=> ?_) (by intro x;exact nh x))
 cases r with
 |ok f=>exact z
 |error e=>exact z.elim
theorem T4 (hs:stop it=false)
  (h:aG M A (eval it env) (λx s₁=>aG M A (pyIter x) (λi s₂=>fh M A (.forLoop t i b [] env) (P2 Q) s₂) E s₁) E s):aG M A (exec (.For t it b [] pos) env) Q E s:=by
 rw [arm_exec_For]
 refine ag (aB (ag (aA h λx s₁ h₁=> ?_)))
 rw [(pl it).fold hs]
 refine ag (aq ?_)
 refine ag (aB (ag (aD (aA h₁ λi s₂ h₂=>Bq rfl h₂))))
theorem MV (h:fh M A (.whileLoop t b [] env) (P2 Q) s):aG M A (exec (.While t b [] pos) env) Q E s:=by
 rw [arm_exec_While]
 exact ag (aB (Bq rfl h))
end
section
variable {c:Cx}{d n k:Nat}{m:Str->Option Value}{ac:ao}{ah:dN}{H:HP}{s:Shared}{v:CV}{l:cR}{A:Around}{E:Value->Shared->Prop}
theorem xG (hn:aV c m ac ah H s)(hi:jC ac ah x j it)(q:Q () s):wpAny (model c.prog c.w) A (letOwnedTupleGo t (.ref it) y) Q E s:=by
 have key:∀o:Obj,(it,o)∈ac->∀n vs,o.cls= .type n->o.data= .fields vs->["enumerate", "zip", "dict_itemiterator", "dict_reverseitemiterator", "odict_iterator", "itertools.zip_longest", "itertools.pairwise"].contains n=false->
   wpAny (model c.prog c.w) A (do
  let (.ref r, .ref a):=((.ref it:Value),y)|return
  let o<-load r
  match o.cls,o.data with
  | .type n, .fields vs=>
   if ["enumerate", "zip", "dict_itemiterator", "dict_reverseitemiterator", "odict_iterator", "itertools.zip_longest", "itertools.pairwise"].contains n&&vs[0]? ==some (rawInt a) then
    rule "for.unpacks-the-owned-tuple"
    updateField r 0 .none
  |_,_=>pure ()) Q E s:=λo hm n vs hc hd LE=>by
  cases y with
  |ref a=>
   refine ar (wpAny_load (hn.addr hm) ?_)
   rw [hc,hd]
   dsimp only
   rw [LE]
   exact br q
  |_=>exact br q
 have all:∃(o:Obj) (n:String) (vs:Array Value),(it,o)∈ac/\o.cls= .type n/\o.data= .fields vs/\ ["enumerate", "zip", "dict_itemiterator", "dict_reverseitemiterator", "odict_iterator", "itertools.zip_longest", "itertools.pairwise"].contains n=false:=by
  cases hi with
  |list _ hm hc hd=>exact ⟨_,_,_,hm,hc,hd,by decide+kernel⟩
  |range hm ho _ _=>subst ho;exact ⟨_,_,_,hm,rfl,rfl,by decide+kernel⟩
  |bytes _ hm hc hd=>exact ⟨_,_,_,hm,hc,hd,by decide+kernel⟩
 refine HV all λo nn vs hm hc hd LE=> ?_;clear all
 unfold letOwnedTupleGo
 cases t<;>first|exact br q|exact key o hm nn vs hc hd LE
theorem bq.drop {X:List Addr}{l0:dN}(x:bq X n0 l0 (eE it ac) ah):bq X n0 l0 ac ah:=⟨x.ah,λp h q=>(bz.mp (x.tp p h q)).1,λp h q z=>(bz.mp (x.cell p h q z)).1⟩
theorem bq.tZ {X:List Addr}{l0:dN}(x0:bq X n0 l0 (eE it ac) ah)(x:bq (it::X) ac ah n' l'):bq X n0 l0 (eE it n') l' :=by
 obtain ⟨⟨m1,e1⟩,s1,c1⟩:=x0
 obtain ⟨⟨m2,e2⟩,s2,c2⟩:=x
 refine ⟨⟨m1++m2,by rw [e2,e1,bZ]⟩,λp h q=> ?_,λp h q z=> ?_⟩
 ·obtain ⟨a,b⟩:=bz.mp (s1 p h q)
  exact bz.mpr ⟨s2 p a q,b⟩
 ·obtain ⟨a,b⟩:=bz.mp (c1 p h q z)
  exact bz.mpr ⟨c2 p a q (by simp [b,z]),b⟩
theorem DC:A.under (.forLoop t i b o env)=A:=Around.under_of_weight rfl
theorem yI:A.under (.whileLoop t b o env)=A:=Around.under_of_weight rfl
theorem xX:A.under (.block b env)=A:=Around.under_of_weight rfl
theorem Dq {R:Result->Shared->Prop}(h:R (.ok .next) s):fh (model prog w) A (.block [] env) R s:=by
 refine d5 ?_
 rw [xX]
 show aG _ A (do return Fin.done (<-(execs [] env).onRaise (λx=>do noteFrame x env;theTreesLotGoes x))) _ _ s
 exact ag (gn (Jt (aq h)))
noncomputable abbrev sP (c:Cx)(v:CV)(A:Around)(b:List Stmt)(f:cR->HP->cQ):Prop:=
 ∀{l:cR} {m:Str->Option Value} {ac:ao} {ah:dN} {H:HP} {s:Shared} {Q:Flow->Shared->Prop} {E:Value->Shared->Prop},aV c m ac ah H s->bC c v l m ac ah->bv c v ac ah (f l H) Q E->aG (model c.prog c.w) A (execs b c.env) Q E s
theorem t7 (ok:c.Ok d)(V:sy c v)(hh:A.handled=none)(hc:CT v t is)(hb:sP c v A b f)(hit:it∉c.X){l0:dN}:
  ∀(N j:Nat) {l:cR} {m:Str->Option Value} {ac:ao} {ah:dN} {H:HP} {s:Shared},aV c m ac ah H s->bC c v l m ac ah->jC ac ah x j it->bq c.X n0 l0 (eE it ac) ah->bv c v n0 l0 (forLoop is f x N j l H) Q E->
   fh (model c.prog c.w) A (.forLoop t (.ref it) b [] c.env) (P2 Q) s
 |0,j,l,m,ac,ah,H,s,hn,hL,hi,hX,h=>h.elim
 |N+1,j,l,m,ac,ah,H,s,hn,hL,hi,hX,h=>by
  refine d5 ?_
  rw [DC]
  show aG _ A ((forTurn t (.ref it) b [] c.env).onRaise (λx=>do noteFrame x c.env;theTreesLotGoes x)) _ _ s
  refine gn (gA (E:=λu8 u8=>False) ?_ (λu8 u8 z=>z) λu8 u8 z=>z.elim)
  unfold forTurn
  refine ag (aB ?_)
  cases e:ct x j H with
  |none=>rw [gj,e] at h;exact h.elim
  |some r=>
   refine Kc hi.obj λob HH KG KW LZ=> ?_
   refine ag (gn (ap (vX hh hn hi e ?_)))
   cases r with
   |none=>
    rw [gj] at h
    rw [e] at h
    intro s' je _
    exact aq ⟨rfl,rfl,Dq (h _ _ _ _ je hX (hL.back hn.nd HH LZ KW))⟩
   |some y=>
    rw [gj] at h
    rw [e] at h
    dsimp only at h
    intro n1 s1 ry cN _ _ X1 I0 vy
    cases eb:kH l is y with
    |none=>rw [eb] at h;exact h.elim
    |some l1=>
     rw [eb] at h
     dsimp only at h
     have kO:bC c v l m n1 ah:=⟨λy i val h1 h2 h3=>let ⟨rv,a,b⟩:=hL.loc y i val h1 h2 h3;⟨rv,a,b.ext X1⟩,λy i val h1 h2 h3=>by
      refine HV (hL.I4 y i val h1 h2 h3) λa o rv a1 a2 a3 a4=> ?_
      exact ⟨a,o,rv,a1,X1.cell _ a2 (ku a3) (by
       intro q
       rw [List.mem_singleton] at q
       exact hit (q▸List.mem_map.mpr ⟨_,eM a1,rfl⟩)),a3,a4.ext X1⟩⟩
     have PU:bq c.X n0 l0 (eE it n1) ah:=hX.tZ (X1.mono (by simp))
     refine ag (ap (xG cN I0 ?_))
     refine ag (ap (LT ok V hh cN kO hc vy eb λm2 n2 s2 fK X2 uz=> ?_))
     have Uo:=I0.ext X2 hit
     have Sp:bq c.X n0 l0 (eE it n2) ah:=PU.tZ (X2.mono (by simp+contextual))
     cases eo:f l1 H with
     |next l3 H3=>
      rw [eo] at h
      refine ag (hb fK uz (by rw [eo];exact λm3 n3 y3 s3 rK X3 Hv=>aq ⟨rfl,rfl,t7 ok V hh hc hb hit N (j+1) rK Hv (Uo.ext X3 hit) (Sp.tZ (X3.mono (by simp+contextual))) h⟩))
     |cont l3 H3=>
      rw [eo] at h
      refine ag (hb fK uz (by rw [eo];exact λm3 n3 y3 s3 rK X3 Hv=>aq ⟨rfl,rfl,t7 ok V hh hc hb hit N (j+1) rK Hv (Uo.ext X3 hit) (Sp.tZ (X3.mono (by simp+contextual))) h⟩))
     |ret z H3=>
      rw [eo] at h
      refine ag (hb fK uz (by rw [eo];exact λm3 n3 y3 s3 rz rK X3 v3=>aq (h m3 n3 y3 s3 rz rK ((Sp.tZ (X3.mono (by simp+contextual))).drop) v3)))
     |exc _ _ _=>rw [eo] at h;exact h.elim
     |jp _ _=>rw [eo] at h;exact h.elim
     |bad=>rw [eo] at h;exact h.elim
end
section
variable {c:Cx}{d n k:Nat}{m:Str->Option Value}{ac:ao}{ah:dN}{H:HP}{s:Shared}{v:CV}{l:cR}{A:Around}{E:Value->Shared->Prop}{R:au}
theorem qU (h:∀pos,wpAny M A (eval (.Name x pos) env) Q E s)(hd:(x==("__debug__":Str))=false):wpAny M A (loadName env x) Q E s:=λΓ p hΓ=>by
 have z:=h p Γ p hΓ
 rw [eval_Name env x p hd,Sem.wp_bind',Sem.wp_cmd_standAt] at z
 exact z
noncomputable def tf:wA->Bool
 | .add=>true| .bor=>true| .shr=>true| .sub=>false| .mul=>false| .fdiv=>false| .mod=>false| .band=>false| .shl=>false
set_option tactic.hygienic true in
theorem Oq (hn:aV c m ac ah H s)(ho:tf op=true)(h:bw av c m ac ah (cF op (.int i) (.int j) H) Q E):aG (model c.prog c.w) A (inplaceOp (lK op) (.int i t) (.int j u)) Q E s:=by
 unfold cF at h
 cases op with
 |add=>exact ap (PyProof.Rows.iadd_int (h _ _ _ _ (hn.toks _) bq.refl (.int _ _)))
 |bor=>exact ap (PyProof.Rows.ior_int (h _ _ _ _ (hn.toks _) bq.refl (.int _ _)))
 |shr=>
  dsimp only at h
  split at h
  ·rename_i hz
   refine ap (PyProof.Rows.irshift_int hz.1 ?_)
   rw [tY (pow_pos _)]
   exact h _ _ _ _ (hn.toks _) bq.refl (.int _ _)
  ·exact h.elim
 |_=>cases ho
theorem Rm (h:cF op (.int i) (.int j) H= .ok x H'):H' =H:=by
 unfold cF at h
 cases op<;>dsimp only at h<;>(first|(cases h;rfl)|(split at h<;>cases h;rfl))
theorem s9 (ok:c.Ok d)(hb:sP c v A b f)
  (ht:∀{l:cR} {m:Str->Option Value} {ac:ao} {ah:dN} {H:HP} {s:Shared} {Q:Bool->Shared->Prop} {E:Value->Shared->Prop},aV c m ac ah H s->bC c v l m ac ah->bw xV c m ac ah (ft l H) Q E->aG (model c.prog c.w) A (isTrue t c.env (eval t c.env)) Q E s)
  {l0:dN}:
  ∀(N:Nat) {l:cR} {m:Str->Option Value} {ac:ao} {ah:dN} {H:HP} {s:Shared},aV c m ac ah H s->bC c v l m ac ah->bq c.X n0 l0 ac ah->bv c v n0 l0 (whileLoop ft f N l H) Q E->
   fh (model c.prog c.w) A (.whileLoop t b [] c.env) (P2 Q) s
 |0,l,m,ac,ah,H,s,hn,hL,hX,h=>h.elim
 |N+1,l,m,ac,ah,H,s,hn,hL,hX,h=>by
  refine d5 ?_
  rw [yI]
  show aG _ A ((whileTurn t b [] c.env).onRaise (λx=>do noteFrame x c.env;theTreesLotGoes x)) _ _ s
  refine gn (gA (E:=λu8 u8=>False) ?_ (λu8 u8 z=>z) λu8 u8 z=>z.elim)
  unfold whileTurn
  rw [xc] at h
  cases et:ft l H with
  |ok bb H1=>
   rw [et] at h
   refine ag (ht hn hL (by
    rw [et]
    intro n1 l1 s1 rb cN X1 v1
    cases v1
    cases bb with
    |false=>
     show aG _ _ (do return Fin.done (<-execs [] c.env)) _ _ _
     exact ag (Jt (aq (h _ _ _ _ cN (hX.trans X1.wide) (hL.ext X1))))
    |true=>
     dsimp only at h
     show aG _ _ (do match<-execs b c.env with| .next| .cont=>again (.whileLoop t b [] c.env)| .brk=>pure (.done .next)| .ret v=>pure (.done (.ret v))) _ _ _
     cases eo:f l H1 with
     |next l3 H3=>
      rw [eo] at h
      refine ag (hb cN (hL.ext X1) (by rw [eo];exact λm3 n3 y3 s3 rK X3 Hv=>aq ⟨rfl,rfl,s9 ok hb ht N rK Hv ((hX.trans X1.wide).trans X3) h⟩))
     |cont _ _=>rw [eo] at h;exact h.elim
     |ret _ _=>rw [eo] at h;exact h.elim
     |exc _ _ _=>rw [eo] at h;exact h.elim
     |jp _ _=>rw [eo] at h;exact h.elim
     |bad=>rw [eo] at h;exact h.elim))
  |exc _ _=>rw [et] at h;exact h.elim
  |bad=>rw [et] at h;exact h.elim
end
noncomputable abbrev Ot:List Value:= [.type "Exception", .type "BaseException", .type "object"]
noncomputable def i4 (K:Frag)(C:Addr):Bool:=ktsIn K C "BaseException"&&excIn K C Ot "Exception.__new__"&&keepIn K (.ref C)
section
variable {c:Cx}{d n k:Nat}{m:Str->Option Value}{ac:ao}{ah:dN}{H:HP}{s:Shared}{v:CV}{l:cR}{A:Around}{E:Value->Shared->Prop}{R:au}
theorem Cx.Ok.sH (ok:c.Ok d)(T:KtsTurn c.fs c.g₀ g):Below c.A₀ c.base c.outer g:=⟨ok.below.stack,ok.stays T,ok.below.frames.of_keeps λb o e u8=>by
 obtain ⟨sl,hs⟩:=T.up e
 exact ⟨_,hs,rfl⟩⟩
theorem qi (h0:c.cl= []):c.env=envOf c.cn c.cs c.L c.a c.cd:=by unfold Cx.env;rw [h0];rfl
theorem Ai (ok:c.Ok d)(h0:c.cl= []){kk:Nat}{t:Nat}(hn:aV c m ac ah H s)(hx:Heap.MadeExcOf s.heap h' e (.ref (c.S.dF kk)) vs):f7 c kk ac (.ref e) {s with heap:=h',toks:=t}:=by
 unfold f7 Cx.A
 rw [qi h0]
 refine hn.gE λg T F N=> ?_
 have hP:c.S.HU kk=false->ef e h' :=λu8=>by
  refine aZ hx.there λt ht u8=> ?_
  exact ⟨_,_,ht,rfl,rfl⟩
 refine wpAny_mono (jw (mB pH) hP (leave_raiseS (Q:=λu8 s' =>∃t g',KtsTurn c.fs c.g₀ g' /\RaisedS c.base g' c.outer e (.ref (c.S.dF kk)) t vs ac s'.heap/\g'.UpToSlots s'.heap/\(s'.gens=c.gens/\s'.drawn=c.drawn/\s'.os=c.os)) (ok.sH T) hx F N (λh2 t R u8 U=>⟨t,g,T,R,U,hn.sh⟩) ok.kind)) (λu8 s' z=> ?_) λu8 u8 z=>z.1
 obtain ⟨⟨t,g',a1,a2,a3,a4⟩,a5⟩:=z
 exact ⟨e,t,vs,g',rfl,a1,a2,a3,a4,a5⟩
theorem E9 (ok:c.Ok d)(h0:c.cl= []){kk:Nat}{ev:Value}(hx:CS c ac ah H s)(h:kg c m kk ac ev s):f7 c kk ac ev s:=by
 unfold f7 Cx.A
 obtain ⟨e,t,vs,G,rfl,R,U,⟨g,T,F⟩,hP⟩:=h
 rw [qi h0] at R⊢
 refine wpAny_mono (jw (mB pH) hP (leave_onS (Q:=λu8 s' =>RaisedS c.base g c.outer e (.ref (c.S.dF kk)) t vs ac s'.heap/\g.UpToSlots s'.heap/\(s'.gens=c.gens/\s'.drawn=c.drawn/\s'.os=c.os)) (ok.sH T) F R U λh2 R2 u8 U2=>⟨R2,U2,hx.sh⟩)) (λu8 s' z=> ?_) λu8 u8 z=>z.1
 obtain ⟨⟨a1,a2,a3⟩,a5⟩:=z
 exact ⟨e,t,vs,g,rfl,T,a1,a2,a3,a5⟩
theorem xn (O:OwnCls x C WW newId mg h){G:Prop}
  (K:∀bm N nm q bs Fm sn sub ab col dd k0 k1 k2 k3 k5 mN,h.get? C=some (excClassObj nm q C N bs bm Fm sn sub ab col dd k0 k1 k2 k3 k5 newId)->h.Ns N mN->mN "__init__"=none->OwnTail h WW bm->G):G:=by
 obtain ⟨bm,N,nm,q,bs,Fm,sn,sub,ab,col,dd,k0,k1,k2,k3,k5,mN,hC,hN,OY,Tl⟩:=O.obj
 exact K _ _ _ _ _ _ _ _ _ _ _ _ _ _ _ _ _ hC hN OY Tl
theorem C8 (ok:c.Ok d)(hh:A.handled=none)(hC:i4 c.K C=true)(T:KtsTurn c.fs c.g₀ g)(hx:nsIn c.K mainGlobals x=some (some (.ref C)))(hl:rs.length<=100)(F:Fr g c.L s.heap m)
  (q:∀h' e,Heap.MadeExcOf s.heap h' e (.ref C) rs->(∀{Q' :Flow->Shared->Prop} {E' :Value->Shared->Prop} {env:Env},E' (.ref e) {s with heap:=h' }->wpAny (model c.prog c.w) A (raiseStmt env (some (pure (.ref e))) none) Q' E' {s with heap:=h' })->Q (.ref e) {s with heap:=h' }):
  wpAny (model c.prog c.w) A (call (.ref C) rs) Q E s:=by
 unfold i4 at hC
 simp only [Bool.and_eq_true] at hC
 obtain ⟨⟨c1,c2⟩,c3⟩:=hC
 have O:=own_of_in (x:=x) (ok.pR T) (ok.Cj T) hx c2
 refine xn O λbm N nm q' bs Fm sn sub ab col dd k0 k1 k2 k3 k5 mN hC hN OY Tl=> ?_
 obtain ⟨PT,gg,d',tk,os⟩:=s
 have F' :Fr g c.L PT m:=F
 refine wpAny_call_exc_subT (hrest:=by rw [eW];exact lA ‹_› rfl) PySem.F.excBase_Exception (Tl.keeps F'.keep) (F'.keep _ _ hC) (hN.keeps F'.keep) OY λh' e hm=>q h' e hm λ{Q' E' env} hE=> ?_
 refine mq hm.there λt ht u8 u8=> ?_
 exact wpAny_raiseStmt_made_sub (Tl.hasType PySem.F.excBase_Exception.hasBase) hh (br ⟨e,t,rfl,hm.keeps _ _ (F'.keep _ _ hC),ht,hE⟩)
theorem zK (ok:c.Ok d)(RS:d8 c n R)(hA:lN c n (k+1) A)(V:sy c v)(h0:c.cl= []){kk:Nat}(hC:i4 c.K (c.S.dF kk)=true)(hg:eg v x=true)(hl:c.S.glob.lookup x=some (.cls kk))(cI:stop m' =false)(hc:Ck c.S v m' e)
  (hn:aV c m ac ah H s) (hL:bC c v l m ac ah) (h:bv c v ac ah ((bj c.P R e l H).then l λv H=>match v with| .text=> .jp kk H|_=> .bad) Q E):
  aG (model c.prog c.w) A (exec (.Raise (some (.Call (.Name x np) [m'] [] z6)) none pos) c.env) Q E s:=by
 rw [arm_exec_Raise]
 refine ag (aB ?_)
 show aG _ A ((do let v<-eval (.Call (.Name x np) [m'] [] z6) c.env;standAt pos;pure v)>>=λw=>raiseStmt c.env (some (pure w)) none) Q E s
 have he:=eu ok V hL
 have a:=ok.mW.EV _ _ hl
 refine ag (ag (vj (ap (he.Nu _ _ hg a _ _ _ _ _ _ _ _ hn ?_))))
 refine pT (by cases m' <;>first|rfl|(cases cI;done)) ?_
 refine xv (by cases m' <;>first|rfl|(cases cI;done)) (gc ok RS e m' hc hA he hn (bv.then hL h λy H1 n1 l1 s1 ry cN X1 kO v1 h1=> ?_))
 refine AZ ?_
 cases v1 with
 |text tx tt=>
  refine cN.gE λg T F N=> ?_
  have c3:keepIn c.K (.ref (c.S.dF kk))=true:=by
   have z:=hC
   unfold i4 at z
   simp only [Bool.and_eq_true] at z
   exact z.2
  refine ⟨rS ok c3 _ _ _ _ cN,ap (C8 ok hA.hand hC T a (by simp) F λh' ex hm hr=> ?_)⟩
  refine ag (aB (aq (ap (hr ?_))))
  exact h1 _ _ _ _ ⟨cN.nd,cN.hr⟩ bq.refl (Ai (t:=s1.toks) ok h0 cN hm)
 |_=>exact h1.elim
end
section
variable {c:Cx}{d n k:Nat}{m:Str->Option Value}{ac:ao}{ah:dN}{H:HP}{s:Shared}{v:CV}{l:cR}{A:Around}{E:Value->Shared->Prop}{R:au}
theorem tE (hm:b∈(c.env::c.outer).filterMap (·.frame)):b=c.L∨b∈c.fs:=by
 refine aZ (List.mem_filterMap.mp hm) λenv he hf=> ?_
 rcases cH he with rfl|he
 ·exact .inl (cq hf).symm
 ·exact .inr (List.mem_filterMap.mpr ⟨env,he,hf⟩)
theorem uV (ok:c.Ok d){g G B h' :Heap}(T0:KtsTurn c.fs c.g₀ g)(F:Fr g c.L G m)(QQ:∀b o,G.get? b=some o->b∉(c.env::c.outer).filterMap (·.frame)->B.get? b=some o)(RY:B.StaysIn h')(K6:G.UpToSlots h'):
  ∃g',KtsTurn c.fs g g' /\Fr g' c.L h' m:=by
 have K:=ok.sH T0
 obtain ⟨T,S⟩:=kts_turn_at (h:=h') (fs:=c.fs) (g:=g)
  (λb hb=>by
   obtain ⟨_,o,ho,_⟩:=K.frames.mem hb
   exact ⟨o,ho⟩)
  (λb o e nm=>RY b o (QQ b o (F.keep b o e) (λhm=>by
   rcases tE hm with z|z
   ·rw [z,kts_self F] at e
    exact nh e
   ·exact nm z)))
  (λb o e hm=>by
   obtain ⟨_,o',tz,hd⟩:=K.frames.mem hm
   rw [e] at tz
   cases tz
   exact K6 b o (F.keep b o e) hd)
 exact ⟨_,T,⟨K6.ns F.ns,S,by rw [T.size];exact F.above⟩⟩
theorem XC (ok:c.Ok d)(hB:c.base.StaysIn B)(RY:B.StaysIn h'):c.K.In h' :=ok.Ii.keeps λb o e=>RY b o (hB b o e)
theorem Df (ok:c.Ok d)(XE:A.frames=some (c.env::c.outer)){kk:Nat}{ev:Value}(hx:CS c ac ah H s)(hr:kg c m kk ac ev s)(hC:i4 c.K (c.S.dF kk)=true)(hg:c.cs.names.lookup x=some .globalImplicit)(Tb:(x==("__debug__":Str))=false)
  (ve:nsIn c.K mainGlobals x=some (some (.ref (c.S.dF kk)))) {np pos:Pos}
  (q:∀e h',ev= .ref e->(c.S.HU kk=false->ef e h')->aV c m ac ah H {s with heap:=h' }->wpAny (model c.prog c.w) (A.mark (some (.ref e))) (execs (b₀::QJ) c.env) Q (notedBy (model c.prog c.w) (A.mark (some (.ref e))) c.env (cameBackBy (model c.prog c.w) A c.env E)) {s with heap:=h' }):
  wpAny (model c.prog c.w) A (noteFrame ev c.env) (λu8 s₂=>wpAny (model c.prog c.w) A (setFlight ev none) (λu8 s₃=>
    wpAny (model c.prog c.w) A (handleBy ev c.env (.ExceptHandler (some (.Name x np)) none (b₀::QJ) pos::aI)) Q E s₃) E s₂) E s:=by
 refine cps λZ zz=> ?_
 obtain ⟨e,t,vs,G,rfl,⟨⟨B,hB,QQ,hl,UP,uu⟩,YF⟩,K6,⟨g,T0,F⟩,hP⟩:=hr
 unfold i4 at hC
 simp only [Bool.and_eq_true] at hC
 obtain ⟨⟨qk,_⟩,_⟩:=hC
 have hL:B.get? c.L=none:=by
  obtain ⟨_,⟨L',_,hf,je,_⟩,_⟩:=UP.2.2.1
  obtain rfl:c.L=L' :=cq hf
  exact je
 refine zz (wpAny_mono (jw (mB mj) hP (wpAny_looks_onW (Q:=λu8 s' =>∃h₄,s' ={s with heap:=h₄}/\Heap.HeldW B (c.env::c.outer) e (.ref (c.S.dF kk)) (.ref t) c.L h₄/\s.heap.UpToSlots h₄) (E:=λu8 u8=>False) XE (L:=c.L) rfl UP λh₄ a b=>⟨h₄,rfl,a,b⟩)) (λu8 s₄ z=> ?_) λu8 u8 z=>z.1.elim)
 clear zz
 refine cps λZ zz=> ?_
 obtain ⟨⟨h₄,rfl,Fe,LO⟩,Oj⟩:=z
 refine zz (wpAny_mono (jw (mB jm) Oj (wpAny_landsW (Q:=λu8 s' =>∃h₅,s' ={s with heap:=h₅}/\Heap.FlyingW B (c.env::c.outer) e (.ref (c.S.dF kk)) (.ref t) h₅/\h₄.UpToSlots h₅) (E:=λu8 u8=>False) Fe λh₅ a b=>⟨h₅,rfl,a,b⟩)) (λu8 s₅ z=> ?_) λu8 u8 z=>z.1.elim)
 clear zz
 refine cps λZ zz=> ?_
 obtain ⟨⟨h₅,rfl,Hw,J3⟩,NN⟩:=z
 have Fk:=LO.trans J3
 refine aZ (uV ok T0 F QQ Hw.1 (K6.trans Fk)) λg₅ T₅ F₅=> ?_
 refine aZ Hw.there λob JF Sy=> ?_
 have T5:=T0.trans T₅
 obtain ⟨nm,q',N,bs,bm,Fm,sn,sub,ab,col,dd,k0,k1,k2,k3,k5,newId,N7,Om,Zt⟩:=kts_cls (ok.pR T5) qk
 have Pv:=F₅.keep _ _ N7
 refine zz (wpAny_handleBy_cons (codeAny_handlers_test (nameX_K F₅ (ok.pR T5) (ok.Cj T5) ve ?_ ok.kind hg Tb)) (by intro z;cases z))
 clear zz
 refine wpAny_excMatches_sub_self Pv JF Sy Om (codeAny_handlers_suite ?_)
 refine wpAny_mono (jw (mB jm) NN (lands_againW (Q:=λu8 s' =>∃h₆,s' ={s with heap:=h₆}/\Heap.FlyingW B (c.env::c.outer) e (.ref (c.S.dF kk)) (.ref t) h₆/\h₅.UpToSlots h₆) (E:=λu8 u8=>False) Hw λh₆ a b=>⟨h₆,rfl,a,b⟩)) (λu8 s₆ z=> ?_) λu8 u8 z=>z.1.elim
 obtain ⟨⟨h₆,rfl,Ex,MY⟩,NR⟩:=z
 obtain ⟨g₆,T₆,F₆⟩:=uV ok T0 F QQ Ex.1 ((K6.trans Fk).trans MY)
 refine q e h₆ rfl NR ⟨⟨g₆,T0.trans T₆,F₆,λp hp=> ?_⟩,hx.nd,hx.hr,hx.cells,hx.sh⟩
 exact ⟨Ex.1 _ _ (hl p hp).1,(λz=>by have:=(hl p hp).1;rw [z,hL] at this;exact nh this),T₆.none_ _ (kts_none F.keep (hl p hp).2.1)⟩
theorem RG (lG:hs.isEmpty=false)
  (h:aG M A (execs b env) Q (λe s' =>aG M A (noteFrame e env) (λu8 s₂=>aG M A (setFlight e none) (λu8 s₃=>aG M A (handleBy e env hs) Q E s₃) E s₂) E s') s):aG M A (exec (.Try b hs [] [] pos) env) Q E s:=by
 rw [arm_exec_Try]
 refine ag (aB ?_)
 unfold tryStmt
 refine ag (xH (gA h (λf s₁ h₁=> ?_) λe s₁ h₁=> ?_))
 ·cases f with
  |next=>exact Jt h₁
  |_=>exact aq h₁
 ·refine ag (aA h₁ λu8 s₂ h₂=> ?_)
  rw [lG]
  exact ag (aA h₂ λu8 s₃ h₃=>h₃)
end
end Mine
set_option maxHeartbeats 2000000
namespace Mine
open PySem PySem.W PySem.Calls PyProof.Rows PySem.Spec
theorem ug:entryFor table "proto.unchain"=some Builtin.«proto.unchain»:=entryFor_of_tree (by kernel_rfl)
section
variable {prog:Program}{w:World}{A:Around}{E:Value->Shared->Prop}{s:Shared}
theorem za (hh:A.handled=some (.ref f))(lG:f≠e)(hP:ef f s.heap)(he:s.heap.get? e=some oe)(hd:oe.data= .fields ws)(wV:2<ws.size)
  (hE:E (.ref e) {s with heap:=s.heap.update e (Obj.mapFields (·.setIfInBounds 2 (.ref f)))}):wpAny (model prog w) A (raiseNew (.ref e):Sem Flow) Q E s:=by
 refine j8 hP λof vs f1 f2 f3=> ?_;clear hP
 unfold raiseNew
 refine ar (wpAny_handled ?_)
 rw [hh]
 dsimp only
 have hb:((Value.ref f) !=(Value.ref e))=true:=by simp [lG]
 rw [if_pos hb]
 refine ar (wpAny_holding (wpAny_runValue (codeAny_builtin ug ?_)))
 show wpAny _ _ (do
  let context<-field (.ref f) 2
  if context== .none then return<-ret .none
  if context==(.ref e) then
   rule "raise.context-cycle-cut"
   setField (.ref f) 2 .none
   return<-ret .none
  if context==(.ref f) then rule "raise.context-old-cycle";return<-ret .none
  let R3<-if false then field (.ref f) 2 else pure (.ref f)
  again (.builtin "proto.unchain" ⟨[.ref e,context,R3, .bool !false], []⟩)) _ _ s
 refine ar (wpAny_field f1 f2 f3 ?_)
 rw [if_pos (show ((Value.none==Value.none)=true) from rfl)]
 refine br ?_
 show wpAny _ A (setField (.ref e) 2 (.ref f)>>=λu8=>throw (.ref e)) Q E s
 exact ar (wpAny_setField he hd wV (wpAny_throw hE))
end
section
variable {c:Cx}{d n k:Nat}{m:Str->Option Value}{ac:ao}{ah:dN}{H:HP}{s:Shared}{v:CV}{l:cR}{A:Around}{E:Value->Shared->Prop}
theorem BW (ok:c.Ok d)(h0:c.cl= []){kk:Nat}{vs:List Value}{e t:Addr}{h' :Heap}{tk:Nat}(hn:aV c m ac ah H s)(hk:∀b o,s.heap.get? b=some o->h'.get? b=some o)(uu:s.heap.get? e=none){oe:Obj}{ws:Array Value}(he:h'.get? e=some oe)(hc:oe.cls= .ref (c.S.dF kk))
  (hd:oe.data= .fields ws) (w0:ws[0]? =some (.ref t)) (w1:ws[1]? =some .none) (Sn:s.heap.get? t=none) (ht:h'.get? t=some {cls:= .type "tuple",data:= .seq vs.toArray}) (Ue:c.S.HU kk=true):f7 c kk ac (.ref e) {s with heap:=h',toks:=tk}:=by
 unfold f7 Cx.A
 rw [qi h0]
 refine hn.gE λg T F N=> ?_
 have K:=ok.sH T
 have K' :=K.push (name:=c.cn) (a:=c.a) (cd:=c.cd) F ok.kind
 have yP:∀env∈(PyProof.Rows.envOf c.cn c.cs c.L c.a c.cd::c.outer),∀b,env.frame=some b->b∈(PyProof.Rows.envOf c.cn c.cs c.L c.a c.cd::c.outer).filterMap (·.frame):=λenv he b hb=>List.mem_filterMap.mpr ⟨env,he,hb⟩
 have st:c.base.StaysIn (hideAll s.heap ((PyProof.Rows.envOf c.cn c.cs c.L c.a c.cd::c.outer).filterMap (·.frame))):=λb o q=>hideAll_get _ (K'.stays b o q) λhm=>by
  rw [(K'.frames.mem hm).1] at q;exact nh q
 have sg:∀b o,g.get? b=some o->b∉c.outer.filterMap (·.frame)->(hideAll s.heap ((PyProof.Rows.envOf c.cn c.cs c.L c.a c.cd::c.outer).filterMap (·.frame))).get? b=some o:=λb o q nm=>hideAll_get _ (F.keep b o q) λhm=>by
  rcases kts_mem hm with z|z
  ·rw [z,kts_self F] at q
   exact nh q
  ·exact nm z
 have hl:∀q∈ac,(hideAll s.heap ((PyProof.Rows.envOf c.cn c.cs c.L c.a c.cd::c.outer).filterMap (·.frame))).get? q.1=some q.2/\g.get? q.1=none/\c.base.get? q.1=none:=λq hq=>by
  refine ⟨hideAll_get _ (N q hq).1 λhm=> ?_,(N q hq).2.2,fresh_of_stays K.stays (N q hq).2.2⟩
  refine aZ (List.mem_filterMap.mp hm) λenv he hf=> ?_
  rcases cH he with rfl|he
  ·exact (N q hq).2.1 (cq hf).symm
  ·refine aZ ((K.frames.mem (List.mem_filterMap.mpr ⟨env,he,hf⟩)).2) λo ho u8=> ?_
   rw [(N q hq).2.2] at ho;exact nh ho
 have fresh:∀b,s.heap.get? b=none->(hideAll s.heap ((PyProof.Rows.envOf c.cn c.cs c.L c.a c.cd::c.outer).filterMap (·.frame))).get? b=none:=λb hb=>by
  cases q:(hideAll s.heap ((PyProof.Rows.envOf c.cn c.cs c.L c.a c.cd::c.outer).filterMap (·.frame))).get? b with
  |none=>rfl
  |some o=>rw [of_hideAll _ q] at hb;exact E6 hb
 refine wpAny_leaving_firstW (s:={s with heap:=h',toks:=tk}) (a0:= .ref t) K'.stack ((funFrames_hide K'.frames yP).of_keeps λb o hb u8=>⟨o,hk b o hb,rfl⟩) rfl he (λb o hb=>hk b o (of_hideAll _ hb)) (fresh e uu) hd w1 w0 λh3 hL=> ?_
 obtain ⟨k1,⟨_,_,k2⟩,k3,k4⟩:=hL
 rw [hc] at k3
 refine ⟨e,t,vs,g,rfl,T,⟨⟨_,st,sg,hl,⟨k1,fresh e uu,k2,k3⟩,fresh t Sn⟩,Heap.TupAt.of_slots ⟨_,_,ht,rfl,rfl⟩ k4⟩,((Heap.UpToSlots.of_keeps F.keep).trans (Heap.UpToSlots.of_keeps hk)).trans k4,hn.sh,λq=>by rw [Ue] at q;exact Cg q⟩
theorem LV (ok:c.Ok d)(h0:c.cl= [])(hn:aV c m ac ah H s)(hP:ef e s.heap)(hC:i4 c.K (c.S.dF k')=true)(Ue:c.S.HU k' =true)(hx:c.cs.names.lookup x=some .globalImplicit)(Tb:(x==("__debug__":Str))=false)
  (ve:nsIn c.K mainGlobals x=some (some (.ref (c.S.dF k')))) {np cp pos z6:Pos} {kd:_} (q:∀ev s',Lg c ac ah H->f7 c k' ac ev s'->E ev s') (hA:A=c.A):
  wpAny (model c.prog c.w) (A.mark (some (.ref e))) (execs [.Raise (some (.Call (.Name x np) [.Constant (.str txt) kd z6] [] cp)) none pos] c.env) Q (notedBy (model c.prog c.w) (A.mark (some (.ref e))) c.env (cameBackBy (model c.prog c.w) A c.env E)) s:=by
 have inner:wpAny (model c.prog c.w) (A.mark (some (.ref e))) (execs [.Raise (some (.Call (.Name x np) [.Constant (.str txt) kd z6] [] cp)) none pos] c.env) Q (λev s' =>wpAny (model c.prog c.w) A (leaving c.env ev) (λu8 nU=>IE c k' ac ev nU) (λu8 u8=>False) s') s:=by
  refine cps λG K=> ?_
  have Nf:=hC
  unfold i4 at Nf
  simp only [Bool.and_eq_true] at Nf
  obtain ⟨⟨c1,c2⟩,c3⟩:=Nf
  refine hn.gE λg T F N=> ?_
  have O:=own_of_in (x:=x) (ok.pR T) (ok.Cj T) ve c2
  refine xn O λbm Nn nm q' bs Fm sn sub ab col dd k0 k1 k2 k3 k5 mN N7 hN OY Tl=> ?_
  refine K ?_
  clear K G
  refine wpAny_execs_cons ?_
  rw [arm_exec_Raise]
  refine ar (wpAny_standAt ?_)
  show wpAny _ _ ((do let v<-eval (.Call (.Name x np) [.Constant (.str txt) kd z6] [] cp) c.env;standAt pos;pure v)>>=λw=>raiseStmt c.env (some (pure w)) none) _ _ _
  refine ar (ar ?_)
  rw [arm_eval_Call_Name']
  refine ar (nameX_K F (ok.pR T) (ok.Cj T) ve ?_ ok.kind hx Tb)
  obtain ⟨PT,gg,d',tk,os⟩:=s
  have F' :Fr g c.L PT m:=F
  have LX:ef e PT:=hP
  have Yi:(Value.ref (c.S.dF k')::bm).contains (.type "BaseException")=true:=by rw [List.contains_cons,Tl.hasType PySem.F.excBase_Exception.hasBase,Bool.or_true]
  have F8:=(gz (env:=c.env) [.Constant (.str txt) kd z6] cp rfl).1
  unfold callWith
  refine ar (wpAny_holding ?_)
  rw [(pl _).star rfl] at F8⊢
  refine Calls.evalArgs_plain ?_
  show wpAny _ _ (do let v<-eval (.Constant (.str txt) kd z6) c.env;let here<-(pure [v]:Sem (List Value));return here++(<-holding here (pure []))) _ _ _
  refine ar (wpAny_Constant_str (ar (br (ar (wpAny_holding (br (br ?_)))))))
  refine ar (wpAny_standAt ?_)
  simp only [F8]
  refine ar (wpAny_keeperOf_exc (F'.keep _ _ N7) ?_)
  refine ar (wpAny_call_exc_subT (hrest:=by rw [eW];simp) PySem.F.excBase_Exception (Tl.keeps F'.keep) (F'.keep _ _ N7) (hN.keeps F'.keep) OY λh' e2 hm=>ar (wpAny_holding (wpAny_point (br ?_))))
  refine ar (wpAny_standAt (br ?_))
  refine mq hm.there λt he Sn ht=> ?_
  have L0:=hm.keeps _ _ (F'.keep _ _ N7)
  have lG:e≠e2:=λq=>by
   refine uy LX λo u8 ho u8=> ?_;clear LX
   have:=hm.new
   rw [<-q,ho] at this;exact E6 this
  have OZ:t≠e2:=λq=>by
   rw [q,he] at ht
   cases ht
  have W0:ef e h' :=let ⟨o,vs,a,b,c⟩:=LX;⟨o,vs,hm.keeps _ _ a,b,c⟩
  unfold raiseStmt
  refine ar (br ?_)
  repeat (first|with_reducible refine wpAny_loadPart_at he ?_|with_reducible refine wpAny_loadPart_at L0 ?_|(with_reducible refine wpAny_isSubtype_exc L0 ?_;rw [Yi])|wp_step)
  refine za rfl lG W0 he rfl (by show 2<6;decide) ?_
  have Xl:aV c m ac ah H {heap:=PT,gens:=gg,drawn:=d',toks:=tk,os:=os}:=hn
  have z:=BW (tk:=tk+1) ok h0 Xl (h' :=h'.update e2 (Obj.mapFields (·.setIfInBounds 2 (.ref e)))) (e:=e2) (t:=t) (kk:=k') (λb o hb=>(Heap.get?_update_other _ _ (λq=>by
    have:=hm.new
    rw [q,hb] at this;exact E6 this)).trans (hm.keeps b o hb)) hm.new (Heap.get?_update_self _ he rfl) rfl rfl rfl rfl Sn ((Heap.get?_update_other _ _ (Ne.symm OZ)).trans ht) Ue
  unfold f7 at z
  rw [<-hA] at z
  exact z
 refine wpAny_mono inner (λu8 u8 z=>z) λev s' z=> ?_
 have:=PassesOwnAt.leaving (M:=model c.prog c.w) (A:=A) (hd:=some (.ref e)) (env:=c.env) (Q₁:=λev nU=>IE c k' ac ev nU) (E₁:=λu8 u8=>False) ev s' z
 have fin:∀ev s2,cameBackBy (model c.prog c.w) A c.env (λe s' =>wpAny (model c.prog c.w) A (leaving c.env e) (λu8 nU=>IE c k' ac e nU) (λu8 u8=>False) s') ev s2->cameBackBy (model c.prog c.w) A c.env E ev s2:=λev s2 y=>
  wpAny_mono y (λu8 s3 y3=>q ev s3 ⟨hn.nd,hn.hr⟩ (by unfold f7;rw [<-hA];exact y3)) λTI s3 y3=>q TI s3 ⟨hn.nd,hn.hr⟩ (by unfold f7;rw [<-hA];exact y3)
 exact wpAny_mono this (λu8 s2 y=>fin ev s2 y) λTI s2 y=>fin TI s2 y
end
noncomputable def BA (v:CV)(sc:Scope)(ts:List Str)(x:Str)(i:Nat):Bool:=
 (x !=("__debug__":Str))&&(x !=("__classdict__":Str))&&(if i<1000 then v.ot.lookup x==some i&&sc.names.lookup x==some .free&&v.sc.names.lookup x==some .cell else ts[i - 1000]? ==some x&&sc.names.lookup x==some .local)
inductive Cp (v:CV)(sc:Scope)(ts:List Str):SE->Expr->Prop where
 |int (i k p):Cp v sc ts (.int i) (.Constant (.int i) k p)
 |bytes (b k p) (h:(b.map λc=>(c.toNat:Int)).length<=big):Cp v sc ts (.bytes (b.map λc=>(c.toNat:Int))) (.Constant (.bytes b) k p)
 |loc (x p i) (h:BA v sc ts x i=true):Cp v sc ts (.loc i) (.Name x p)
 |sub (o j p a i) (h1:stop j=false) (h2:Cp v sc ts a o) (h3:Cp v sc ts i j):Cp v sc ts (.sub a i) (.Subscript o j p)
 |bin (l r p op a b) (h2:Cp v sc ts a l) (h3:Cp v sc ts b r):Cp v sc ts (.bin op a b) (.BinOp l (lK op) r p)
inductive Co (v:CV)(sc:Scope)(ts:List Str):EK->Expr->Prop where
 |one (a e) (h:Cp v sc ts a e):Co v sc ts (.one a) e
 |pair (a b x y k p) (h1:stop x=false) (h2:stop y=false) (h3:Cp v sc ts a x) (h4:Cp v sc ts b y):Co v sc ts (.pair a b) (.Tuple [x,y] k p)
inductive rD (v:CV)(sc:Scope)(ts:List Str):Option (SE×SE)->List Expr->Prop where
 |none:rD v sc ts none []
 |some (a b l r p) (h1:behindInMarks .Eq r=false) (h2:Cp v sc ts a l) (h3:Cp v sc ts b r):rD v sc ts (some (a,b)) [.Compare l [.Eq] [r] p]
inductive Tg:Nat->Expr->List Str->Prop where
 |name (x p):Tg 1 (.Name x p) [x]
 |tup (es k p xs w) (h1:w≠1) (h2:xs.length=w) (h3:DD es xs):Tg w (.Tuple es k p) xs
noncomputable def sI (v:CV)(sc:Scope)(ts:List Str):Bool:=
 sc.kind== .function&&v.sc.kind== .function&&decide ts.Nodup&&(ts.all λx=>sc.names.lookup x==some .local)&&
 (sc.names.all λp=>p.2 != .cell&&(p.2 != .local||sc.names.lookup p.1==some .local)&&(p.2 != .free||(v.sc.names.lookup p.1==some .cell&&(v.ot.lookup p.1).isSome)))
inductive Ct (S:lu)(v:CV):Expr->Expr->ST->Prop where
 |name (x p i e) (h:v.ot.lookup x=some i):Ct S v (.Name x p) e (.name i)
 |tup (es k p is e) (h1:es.length≠1) (h2:CN v es is) (h3:Ao e=false):Ct S v (.Tuple es k p) e (.tup is)
 |attr (o p a k e) (h:Ck S v o a):Ct S v (.Attribute o (S.attr k) p) e (.attr a k)
 |sub (o j p a i e) (h1:Ck S v o a) (h2:Ck S v j i):Ct S v (.Subscript o j p) e (.sub a i)
noncomputable def v5 (v:CV):Bool:=v.sc.names.all λp=>p.2 != .cell
inductive Ch (S:lu)(X:Nat->Bool)(v:CV)(kk:Nat):List Stmt->HS->Prop where
 |jN (k p q):Ch S X v kk [.Return (some (.Constant .none k p)) q] .jN
 |setB (x p b k q r i) (h:v.ot.lookup x=some i):Ch S X v kk [.Assign [.Name x p] (.Constant (.bool b) k q) r] (.setB i b)
 |inc (x p n k q r i) (h:gh v x i=true):Ch S X v kk [.AugAssign (.Name x p) .Add (.Constant (.int n) k q) r] (.inc i n)
 |raise (x p s k q r t j) (h1:eg v x=true) (h2:S.glob.lookup x=some (.cls j)) (h3:X j=true) (h4:S.HU j=true) (h5:S.HU kk=false) (h6:v5 v=true):Ch S X v kk [.Raise (some (.Call (.Name x p) [.Constant (.str s) k q] [] r)) none t] (.raise j)
theorem Jc {S:lu}(h:Ct S v t e tt):swappedStores [t] e env=pure none:=by
 cases h with
 |tup es k p is e h1 h2 h3=>exact (pl e).NL h3 _ _ _ _
 |_=>rfl
section
variable {c:Cx}{d n k:Nat}{m:Str->Option Value}{ac:ao}{ah:dN}{H:HP}{s:Shared}{v:CV}{l:cR}{A:Around}{E:Value->Shared->Prop}{R:au}
set_option tactic.hygienic true in
theorem ML (ok:c.Ok d)(V:sy c v){X:Nat->Bool}{kk:Nat}(hc:Ch c.S X v kk xs h)(J2:∀k,h≠ .raise k)(hn:aV c m ac ah H s)(hL:bC c v l m ac ah)(q:bv c v ac ah (KC h l H) Q E):
  wpAny (model c.prog c.w) Ah (execs xs c.env) Q (λu8 u8=>False) s:=by
 cases hc with
 |jN=>
  refine wpAny_execs_cons ?_
  rw [arm_exec_Return]
  refine ar (wpAny_standAt (ar (Constant_none (br ?_))))
  exact q _ _ _ _ _ hn bq.refl .none
 |setB x p b k q' r i h1=>
  refine wpAny_execs_cons ?_
  refine wpAny_Assign_Name (Constant_bool ?_) ((pl _).swap rfl _ _ _)
  refine (show wpAny _ _ (bindName c.env _ _) _ _ _->wpAny _ _ (storeName c.env _ _) _ _ _ from λz Γ p hΓ=>by have y:=z Γ p hΓ;rw [Sem.wp_bindName] at y;exact y) ?_
  exact jt ok V hn hL h1 (.bool _) λm' az s' je X' Gv=>wpAny_execs_nil (q _ _ _ _ je X' Gv)
 |inc x p n k q' r i h1=>
  change bv c v ac ah (match l[i]? with|some (some (.int a))=> .next (al l i (.int (a+_))) H|_=> .bad) Q E at q
  split at q
  ·rename_i a ha
   have he:=eu ok V hL
   refine aZ (he.loc _ i _ h1 ha ac ah bq.refl) λrv vr hr=> ?_
   unfold gh at h1
   simp only [Bool.and_eq_true,beq_iff_eq,bne_iff_ne,ne_eq] at h1
   obtain ⟨t,rfl⟩:=aR vr
   refine wpAny_execs_cons (wpAny_AugAssign_Name (qU (λpos=>hr H s _ pos _ _ hn ?_) (eX h1.1.2)))
   refine wpAny_Constant_int (PyProof.Rows.iadd_int ?_)
   refine (show wpAny _ _ (bindName c.env _ _) _ _ _->wpAny _ _ (storeName c.env _ _) _ _ _ from λz Γ p hΓ=>by have y:=z Γ p hΓ;rw [Sem.wp_bindName] at y;exact y) ?_
   exact jt ok V (hn.toks _) hL h1.1.1 (.int _ _) λm' az s' je X' Gv=>wpAny_execs_nil (q _ _ _ _ je X' Gv)
  ·exact q.elim
 |raise _ _ _ _ _ _ _ j=>exact absurd rfl (J2 _)
end
section
variable {c:Cx}{d n k:Nat}{v:CV}{A:Around}{R:au}{X:Nat->Bool}
noncomputable abbrev Ci (c:Cx)(v:CV)(A:Around)(R:au)(x:Stmt)(st:SS):Prop:=
 ∀{l:cR} {m:Str->Option Value} {ac:ao} {ah:dN} {H:HP} {s:Shared} {Q:Flow->Shared->Prop} {E:Value->Shared->Prop},aV c m ac ah H s->bC c v l m ac ah->bv c v ac ah (gJ c.P R st l H) Q E->aG (model c.prog c.w) A (exec x c.env) Q E s
theorem Dc (ok:c.Ok d)(RS:d8 c n R)(V:sy c v)(hA:lN c n (k+1) A)(h1:ol x=false)(h2:Ck c.S v x e)(h3:Ct c.S v t x tt):Ci c v A R (.Assign [t] x pos) (.j3 tt e):=by
 intro l m ac ah H s Q E hn hL h
 have h' :bv c v ac ah ((bj c.P R e l H).then l λu H=>Bm c.P R tt u l H) Q E:=h
 have QM:assignEach [t] c.env= [(false,assign t c.env)]:=by
  cases h3<;>rfl
 refine Bz ((pl _).swap h1 _ _ _) (Jc h3) QM (gc ok RS _ _ h2 hA (eu ok V hL) hn (bv.then hL h' λu H1 n1 l1 s1 ru cN X1 kO vu gp=> ?_))
 cases h3 with
 |name x p i e g=>
  exact KX (ap (jt ok V cN kO g vu λm' az s' je X' Gv=>gp _ _ _ _ je X' Gv))
 |tup es k p is e g1 g2 g3=>
  cases u with
  |tuple vs=>
   change bv c v n1 l1 (if is.length=vs.length then .next (dJ l is vs) H1 else .bad) Q E at gp
   split at gp
   ·exact ap (yz ok V hA.hand cN kO g2 vu ‹_› λm' az s' je X' Gv=>gp _ _ _ _ je X' Gv)
   ·exact gp.elim
  |_=>exact gp.elim
 |attr o p a i e h4=>
  refine NX (gc ok RS _ _ h4 hA (eu ok V kO) cN (bv.then kO gp λo H2 n2 l2 s2 ro fK X2 uz vo kf=> ?_))
  cases hp:bD c.P o i u H2 with
  |none=>rw [hp] at kf;exact kf.elim
  |some H3=>
   rw [hp] at kf
   exact ap (ta ok fK vo (vu.ext X2) hp λaz s' je X' =>kf _ _ _ _ je X'.wide (uz.ext X'))
 |sub o j p a i e h4 h5=>
  refine Qv (gc ok RS _ _ h4 hA (eu ok V kO) cN (bv.then kO gp λo H2 n2 l2 s2 ro fK X2 uz vo kf=> ?_))
  refine gc ok RS _ _ h5 hA (eu ok V uz) fK (bv.then uz kf λkk H3 n3 l3 s3 rk rK X3 Hv vk Fz=> ?_)
  cases hp:jL o kk u H3 with
  |none=>rw [hp] at Fz;exact Fz.elim
  |some H4=>
   rw [hp] at Fz
   exact ap (Al ok rK (vo.ext X3) vk ((vu.ext X2).ext X3) hp λaz s' je X' =>Fz _ _ _ _ je X'.wide (Hv.ext X'))
theorem Fj (ok:c.Ok d)(RS:d8 c n R)(V:sy c v)(hA:lN c n (k+1) A)(h4:Ck c.S v o a)(h5:Ck c.S v j i):Ci c v A R (.Delete [.Subscript o j p] pos) (.del a i):=by
 intro l m ac ah H s Q E hn hL h
 have h' :bv c v ac ah ((bj c.P R a l H).then l λo H=>(bj c.P R i l H).then l λk H=>match hW o k H with|some H=> .next l H|none=> .bad) Q E:=h
 refine SK (gc ok RS _ _ h4 hA (eu ok V hL) hn (bv.then hL h' λo H2 n2 l2 s2 ro fK X2 uz vo kf=> ?_))
 refine gc ok RS _ _ h5 hA (eu ok V uz) fK (bv.then uz kf λkk H3 n3 l3 s3 rk rK X3 Hv vk Fz=> ?_)
 cases hp:hW o kk H3 with
 |none=>rw [hp] at Fz;exact Fz.elim
 |some H4=>
  rw [hp] at Fz
  exact ap (zT ok rK (vo.ext X3) vk hp λaz s' je X' =>Fz _ _ _ _ je X'.wide (Hv.ext X'))
theorem JA {C:cQ->Prop}(bad:C .bad){f:Int->cQ}{x:SV}(k:∀i,x= .int i->C (f i)):C (match (generalizing:=false) x with| .int i=>f i|_=> .bad):=by
 cases x with
 |int i=>exact k i rfl
 |_=>exact bad
theorem FD {C:cQ->Prop}(bad:C .bad){f:Int->Int->cQ}{x y:SV}(k:∀i j,x= .int i->y= .int j->C (f i j)):C (match (generalizing:=false) x,y with| .int i, .int j=>f i j|_,_=> .bad):=by
 cases x with
 |int i=>cases y with
  |int j=>exact k i j rfl rfl
  |_=>exact bad
 |_=>exact bad
theorem J0 {C:cQ->Prop}(bad:C .bad){f:Int->cQ}{x:Option (Option SV)}(k:∀i,x=some (some (.int i))->C (f i)):C (match (generalizing:=false) x with|some (some (.int i))=>f i|_=> .bad):=by
 cases x with
 |none=>exact bad
 |some x=>cases x with
  |none=>exact bad
  |some v=>cases v with
   |int i=>exact k i rfl
   |_=>exact bad
theorem Dm (ok:c.Ok d)(RS:d8 c n R)(V:sy c v)(hA:lN c n (k+1) A){x:Str}{p pos:Pos}{y:Expr}{i:Nat}{op:wA}{e:SE}(h1:gh v x i=true)(h2:tf op=true)(h3:Ck c.S v y e):Ci c v A R (.AugAssign (.Name x p) (lK op) y pos) (.qh i op e):=by
 intro l m ac ah H s Q E hn hL h
 refine J0 (C:=λo=>bv c v ac ah o Q E->_) (λh=>h.elim) (x:=l[i]?) (f:=λa=>(bj c.P R e l H).then l λv H=>(match v with| .int b=>(cF op (.int a) (.int b) H).then l λv H=> .next (al l i v) H|_=> .bad)) (λa ha h=> ?_) h
 have he:=eu ok V hL
 refine aZ (he.loc _ i _ h1 ha ac ah bq.refl) λrv vr hr=> ?_
 unfold gh at h1
 simp only [Bool.and_eq_true,beq_iff_eq,bne_iff_ne,ne_eq] at h1
 obtain ⟨t,rfl⟩:=aR vr
 refine QC (ap (qU (λpos=>hr H s _ pos _ _ hn ?_) (eX h1.1.2)))
 refine gc ok RS _ _ h3 hA he hn (bv.then hL h λu H1 n1 l1 s1 ru cN X1 kO vu h4=> ?_)
 refine JA (C:=λo=>bv c v n1 l1 o Q E->_) (λh=>h.elim) (λb eb h4=> ?_) h4
 obtain ⟨_,rfl⟩:=aR (eb▸vu)
 refine Oq cN h2 (bv.then kO h4 λw H2 n2 l2 s2 UM fK X2 uz vw h5=> ?_)
 exact ap (jt ok V fK uz h1.1.1 vw λm' az s' je X' Gv=>h5 _ _ _ _ je X' Gv)
theorem Dw (ok:c.Ok d)(RS:d8 c n R)(V:sy c v)(hA:lN c n (k+1) A){o' :Expr}{p pos:Pos}{y:Expr}{a:Nat}{op:wA}{o e:SE}(h1:Ck c.S v o' o)(h2:tf op=true)(h3:Ck c.S v y e):Ci c v A R (.AugAssign (.Attribute o' (c.S.attr a) p) (lK op) y pos) (.sK o a op e):=by
 intro l m ac ah H s Q E hn hL h
 have h' :bv c v ac ah ((bj c.P R o l H).then l λov H=>(eC ov a H).then l λx H=>(bj c.P R e l H).then l λy H=>match x,y with
  | .int i, .int j=>(cF op (.int i) (.int j) H).then l λv H=>match bD c.P ov a v H with
   |some H=> .next l H
   |none=> .bad
  |_,_=> .bad) Q E:=h
 refine PY (gc ok RS _ _ h1 hA (eu ok V hL) hn (bv.then hL h' λov H1 n1 l1 s1 ro cN X1 kO vo h4=> ?_))
 refine Kt ok cN vo (bv.then kO h4 λx H2 n2 l2 s2 rx fK X2 uz vx h5=> ?_)
 refine gc ok RS _ _ h3 hA (eu ok V uz) fK (bv.then uz h5 λyy H3 n3 l3 s3 ry rK X3 Hv vy h6=> ?_)
 refine FD (C:=λo=>bv c v n3 l3 o Q E->_) (λh=>h.elim) (λi j ei ej h6=> ?_) h6
 obtain ⟨_,rfl⟩:=aR (ei▸vx)
 obtain ⟨_,rfl⟩:=aR (ej▸vy)
 refine Oq rK h2 (bv.then Hv h6 λw H4 n4 l4 s4 UM O1 X4 W6 vw h7=> ?_)
 cases hp:bD c.P ov a w H4 with
 |none=>rw [hp] at h7;exact h7.elim
 |some H5=>
  rw [hp] at h7
  exact ap (ta ok O1 (((vo.ext X2).ext X3).ext X4) vw hp λaz s' je X' =>h7 _ _ _ _ je X'.wide (W6.ext X'))
end
section
variable {M:Model}{A:Around}{E:Value->Shared->Prop}{s:Shared}{env:Env}
theorem xN (h:wpAny M A m Q E s):wpAny M A (operate vs m) Q E s:=λΓ p i=>by
 rw [Sem.wp_operate];exact h Γ p i
theorem RQ (h:wpAny M A (eval l env) (λa s₁=>wpAny M A (eval r env) (λb s₂=>wpAny M A (binaryOp op a b) Q E s₂) E s₁) E s):wpAny M A (eval (.BinOp l op r pos) env) Q E s:=by
 rw [arm_eval_BinOp]
 exact ar (wpAny_mono h (λa s₁ h₁=>ar (wpAny_holding (wpAny_mono h₁ (λb s₂ h₂=>ar (wpAny_standAt (xN h₂))) λu8 u8 x=>x))) λu8 u8 x=>x)
theorem SW (h:wpAny M A (eval v env) (λo s₁=>wpAny M A (eval i env) (λk s₂=>wpAny M A (subscriptTail v i o k) Q E s₂) E s₁) E s):wpAny M A (eval (.Subscript v i pos) env) Q E s:=by
 rw [arm_eval_Subscript]
 exact ar (wpAny_mono h (λo s₁ h₁=>ar (wpAny_holding (wpAny_mono h₁ (λk s₂ h₂=>ar (wpAny_standAt h₂)) λu8 u8 x=>x))) λu8 u8 x=>x)
theorem Ec {l r whole:_}(h:wpAny M A (eval l env) (λa s₁=>wpAny M A (eval r env) (λb s₂=>wpAny M A (compareOp op a b) (λc s₃=>wpAny M A (truthy c) Q E s₃) E s₂) E s₁) E s)
  (hm:behindInMarks op r=false):wpAny M A (isTrue (.Compare l [op] [r] pos) env whole) Q E s:=by
 rw [isTrue_Compare1,markedBehindIn_of_false hm]
 exact ar (wpAny_mono h (λa s₁ h₁=>ar (wpAny_holding (wpAny_mono h₁ (λb s₂ h₂=>ar (wpAny_standAt (ar (xN (wpAny_mono h₂ (λc s₃ h₃=>wpAny_holding h₃) λu8 u8 x=>x))))) λu8 u8 x=>x))) λu8 u8 x=>x)
theorem NU {k:_}(ha:stop a=false)(hb:stop b=false)(h:wpAny M A (eval a env) (λx s₁=>wpAny M A (eval b env) (λy s₂=>wpAny M A (newTuple [x,y]) Q E s₂) E s₁) E s):wpAny M A (eval (.Tuple [a,b] k pos) env) Q E s:=by
 rw [arm_eval_Tuple]
 refine ar (wpAny_standAt (ar ?_))
 rw [(pl a).star ha,(pl b).star hb]
 show wpAny M A (do let v<-eval a env;let here<-(pure [v]:Sem (List Value));return here++(<-holding here (do let v<-eval b env;let here<-(pure [v]:Sem (List Value));return here++(<-holding here (pure []))))) _ E s
 exact ar (wpAny_mono h (λx s₁ h₁=>ar (br (ar (wpAny_holding (ar (wpAny_mono h₁ (λy s₂ h₂=>ar (br (ar (wpAny_holding (br (br (br h₂))))))) λu8 u8 x=>x)))))) λu8 u8 x=>x)
end
noncomputable def qR (env:Env):List (Str×NameKind)->List (Str×Addr)->List (Str×Addr)
 | [],cs=>cs
 |(x,k)::r,cs=>qR env r (if k== .free then (x,(env.cells.lookup x).getD 0)::cs else cs)
theorem AU (env:Env)(x:Str)(k:NameKind)(r:List (Str×NameKind))(cs:List (Str×Addr)):qR env ((x,k)::r) cs=qR env r (if k== .free then (x,(env.cells.lookup x).getD 0)::cs else cs):=rfl
theorem wm {env:Env}:∀(names:List (Str×NameKind)) (cs:List (Str×Addr)),(∀p∈names,p.2= .free->∃a,env.cells.lookup p.1=some a)->
  (forIn names cs (λx r=>do
   let (name,kind):=x
   if kind== .free then
    let a<-cellOf env name
    pure (ForInStep.yield ((name,a)::r))
   else pure (ForInStep.yield r)):Sem (List (Str×Addr)))=pure (qR env names cs)
 | [],cs,_=>rfl
 |(x,k)::r,cs,h=>by
  rw [List.forIn_cons]
  rw [AU]
  by_cases e:k= .free
  ·obtain ⟨a,ha⟩:=h _ (.head _) e
   have:(k==NameKind.free)=true:=beq_iff_eq.mpr e
   simp only [this,if_true]
   unfold cellOf
   rw [show env.cells.lookup x=some a from ha]
   exact wm r _ λp hp=>h p (.tail _ hp)
  ·have:(k==NameKind.free)=false:=eX e
   simp only [this,Bool.false_eq_true,if_false]
   exact wm r _ λp hp=>h p (.tail _ hp)
theorem JJ (h:∀p∈scope.names,p.2= .free->∃a,env.cells.lookup p.1=some a):closureFor scope env=pure (qR env scope.names []):=by
 have:=wm (env:=env) scope.names [] h
 unfold closureFor
 show (forIn scope.names [] _>>=λr=>pure r)=_
 rw [show (forIn scope.names [] (λx r=>do
   let (name,kind):=x
   if kind== .free then
    let a<-cellOf env name
    pure (ForInStep.yield ((name,a)::r))
   else pure (ForInStep.yield r)):Sem (List (Str×Addr)))=_ from this]
 rfl
theorem pq (ha:env.cells.lookup x=some a):∀(names:List (Str×NameKind)) (cs:List (Str×Addr)),((x,NameKind.free)∈names∨cs.lookup x=some a)->(∀b,cs.lookup x=some b->b=a)->(qR env names cs).lookup x=some a
 | [],cs,h,_=>by
  rcases h with h|h
  ·exact j1 h
  ·exact h
 |(y,k)::r,cs,h,hc=>by
  rw [AU]
  by_cases e:k= .free
  ·have:(k==NameKind.free)=true:=beq_iff_eq.mpr e
   rw [this,if_pos rfl]
   by_cases q:x=y
   ·subst q
    have z:((x,(env.cells.lookup x).getD 0)::cs).lookup x=some a:=by rw [ha];simp
    exact pq ha r _ (.inr z) λb hb=>by rw [z] at hb;exact (cq hb).symm
   ·have q' :(x==y)=false:=eX q
    have z:((y,(env.cells.lookup y).getD 0)::cs).lookup x=cs.lookup x:=by rw [List.lookup_cons,q']
    refine pq ha r _ ?_ λb hb=>hc b (by rw [<-z];exact hb)
    rcases h with h|h
    ·rcases cH h with h|h
     ·cases h;exact absurd rfl q
     ·exact .inl h
    ·exact .inr (z.trans h)
  ·have:(k==NameKind.free)=false:=eX e
   rw [this]
   refine pq ha r cs ?_ hc
   rcases h with h|h
   ·rcases cH h with h|h
    ·cases h;exact absurd rfl e
    ·exact .inl h
   ·exact .inr h
theorem jc {env:Env}(hf:env.scope.kind= .function){x:Str}(hx:env.kindOf x=some .cell):∀{names:List (Str×NameKind)},names.lookup x=some .free->
  (names.map λ(n,k)=>if (k==NameKind.free&&env.scope.kind== .function&&env.kindOf n==some .cell) then (n,NameKind.cell) else (n,k)).lookup x=some .cell
 | [],h=>by cases h
 |(n,k)::r,h=>by
  have ih:= @jc env hf x hx r
  show List.lookup x ((if (k==NameKind.free&&env.scope.kind== .function&&env.kindOf n==some .cell)=true then (n,NameKind.cell) else (n,k))::_)=_
  by_cases q:x=n
  ·subst q
   rw [List.lookup_cons,iu] at h
   cases h
   rw [hf,hx]
   simp
  ·have q' :(x==n)=false:=eX q
   rw [List.lookup_cons,q'] at h
   by_cases hc:(k==NameKind.free&&env.scope.kind== .function&&env.kindOf n==some .cell)=true
   ·rw [if_pos hc,List.lookup_cons,q'];exact ih h
   ·rw [if_neg hc,List.lookup_cons,q'];exact ih h
section
variable {c:Cx}{d n:Nat}{m:Str->Option Value}{ac:ao}{ah:dN}{H:HP}{s:Shared}{v:CV}{l:cR}{A:Around}{E:Value->Shared->Prop}{sc:Scope}{ts:List Str}{cv:List SV}{C:Addr}
noncomputable abbrev qH (c:Cx)(sc:Scope)(C:Addr):Env:=compEnvC sc (qR c.env sc.names []) C c.env
noncomputable def O0 (c:Cx)(v:CV)(sc:Scope)(ts:List Str)(l:cR)(cv:List SV)(C:Addr)(ac:ao)(ah:dN)(h:Heap):Prop:=∀x i val,BA v sc ts x i=true->Nc l cv i=some val->
 ∃rv,av ac ah val rv/\∀(s:Shared) A pos (Q:Value->Shared->Prop) (E:Value->Shared->Prop),s.heap=h->Q rv s->wpAny (model c.prog c.w) A (eval (.Name x pos) (qH c sc C)) Q E s
theorem Xb (ok:c.Ok d)(V:sy c v)(hf:sc.kind= .function)(hn:aV c m ac ah H s)(hL:bC c v l m ac ah)(hC:s.heap.Ns C mC)
  (own:∀(j:Nat) (x:Str) (val:SV),ts[j]? =some x->cv[j]? =some val->∃rv,mC x=some rv/\av ac ah val rv):O0 c v sc ts l cv C ac ah s.heap:=λx i val h1 h2=>by
 unfold BA at h1
 simp only [Bool.and_eq_true,bne_iff_ne,ne_eq] at h1
 obtain ⟨⟨e2,e3⟩,h1⟩:=h1
 have hd:(x==("__debug__":Str))=false:=eX e2
 unfold Nc at h2
 by_cases hi:i<1000
 ·rw [if_pos hi] at h1 h2
  simp only [Bool.and_eq_true,beq_iff_eq] at h1
  obtain ⟨⟨a1,a2⟩,a3⟩:=h1
  rw [V.sc] at a3
  have hl:l[i]? =some (some val):=by
   split at h2
   ·cases h2;assumption
   ·exact nh h2
  refine HV (hL.I4 x i val a1 hl a3) λa o rv b1 b2 b3 b4=> ?_
  refine ⟨rv,b4,λs' A pos Q E hs q=>wpAny_Name (wpAny_loadName_cell hf (jc (env:=c.env) ok.kind (show c.env.kindOf x=some .cell from a3) a2) (pq (show c.env.cells.lookup x=some a from b1) _ [] (.inl (eM a2)) (λu8 e=>by cases e)) ⟨o,by rw [hs];exact hn.addr b2,b3⟩ q) hd⟩
 ·rw [if_neg hi] at h1 h2
  simp only [Bool.and_eq_true,beq_iff_eq] at h1
  refine aZ (own _ _ _ h1.1 h2) λrv b1 b2=> ?_
  exact ⟨rv,b2,λs' A pos Q E hs q=>wpAny_Name (wpAny_loadName_local hf (lookup_relabel_local h1.2) (by rw [hs];exact hC) b1 q) hd⟩
theorem zt {C:wA->SV->SV->Option SV->Prop}(bad:∀{op a b},C op a b none)(mi:∀i j,0<j/\j<1000000000->C .mod (.int i) (.int j) (some (.int (i%j))))(ab:∀x y,x.length+y.length<=big->C .add (.bytes x) (.bytes y) (some (.bytes (x++y))))(op:wA)(a b:SV):C op a b (Ia op a b):=by
 cases a with
 |int i=>cases b with
  |int j=>cases op with
   |mod=>
    show C _ _ _ (if 0<j/\j<1000000000 then some (.int (i%j)) else none)
    split
    ·exact mi i j ‹_›
    ·exact bad
   |_=>exact bad
  |_=>exact bad
 |bytes x=>cases b with
  |bytes y=>cases op with
   |add=>
    show C _ _ _ (if x.length+y.length<=big then some (.bytes (x++y)) else none)
    split
    ·exact ab x y ‹_›
    ·exact bad
   |_=>exact bad
  |_=>exact bad
 |_=>exact bad
theorem Y5 {op:wA}{a b val:SV}{ra rb:Value}{s:Shared}{Q:Value->Shared->Prop}(e:Ia op a b=some val)(v1:av ac ah a ra)(v2:av ac ah b rb)(q:∀rx t,av ac ah val rx->Q rx {s with toks:=t}):wpAny (model c.prog c.w) A (binaryOp (lK op) ra rb) Q E s:=by
 refine zt (C:=λop a b z=>z=some val->av ac ah a ra->av ac ah b rb->wpAny (model c.prog c.w) A (binaryOp (lK op) ra rb) Q E s) (λe=>fe e) (λi j hz e v1 v2=> ?_) (λx y hz e v1 v2=> ?_) op a b e v1 v2
 ·obtain ⟨_,rfl⟩:=aR v1
  obtain ⟨_,rfl⟩:=aR v2
  have e:=cq e
  subst e
  exact PyProof.Rows.mod_int' (by lia) (by rw [xY hz.1];exact q _ _ (.int _ _))
 ·refine j8 (bh v1) λu8 u8 dc h1 u8=> ?_;subst dc
  refine j8 (bh v2) λu8 u8 dc h2 u8=> ?_;subst dc
  have e:=cq e
  subst e
  have Vq:x.length+y.length<=4096:=hz
  exact KBa.add_K h1.symm h2.symm (by exact lA ‹_› rfl) λWl k' hb=>q _ _ (.bytes _ _ hb (by rw [aL];exact hz))
theorem G7 {P:Prop}(e:rn a i H=some val)(k:∀H',dH a i H= .ok val H'->P):P:=by
 unfold rn at e
 cases q:dH a i H with
 |ok v H' =>rw [q] at e;exact k H' (cq e▸q)
 |_=>rw [q] at e;exact fe e
theorem OH {f:SV->SV->Option SV}{P:Prop}(h:((wN a l cv H).bind λy=>(wN b l cv H).bind λz=>f y z)=some val)(k:∀y z,wN a l cv H=some y->wN b l cv H=some z->f y z=some val->P):P:=by
 refine aZ (Option.bind_eq_some_iff.mp h) λy e1 h=> ?_
 refine aZ (Option.bind_eq_some_iff.mp h) λz e2 h=> ?_
 exact k y z e1 e2 h
theorem oJ (ok:c.Ok d)(hn:aV c m ac ah H s)(he:O0 c v sc ts l cv C ac ah s.heap)(hc:Cp v sc ts e x):∀{t0:Nat} {val:SV} {Q:Value->Shared->Prop},wN e l cv H=some val->
  (∀rx t,av ac ah val rx->Q rx {s with toks:=t})->wpAny (model c.prog c.w) A (eval x (qH c sc C)) Q E {s with toks:=t0}:=by
 induction hc with
 |int i k p=>exact λh q=>wpAny_Constant_int (q _ _ (cq h▸ .int _ _))
 |bytes b k p h2=>exact λh q=>Constant_bytes (q _ _ (cq h▸ .bytes _ _ (KBw.ints_list _) h2))
 |loc x p i hc=>
  intro t0 val Q h q
  refine aZ (he _ _ _ hc h) λrv a1 a2=> ?_
  exact a2 _ _ _ _ _ rfl (q _ _ a1)
 |sub o j p a i h1 h2 h3 i2 i3=>
  exact λh q=>OH (f:=λy z=>rn y z H) h λy z e1 e2 h=>SW (i2 e1 λry t1 v1=>i3 e2 λrz t2 v2=>G7 h λH' e=>GW ok (hn.toks t2) h1 v1 v2 e λrx t vx u8=>q rx t vx)
 |bin l' r p op a b h2 h3 i2 i3=>
  exact λh q=>OH (f:=Ia op) h λy z e1 e2 h=>RQ (i2 e1 λry t1 v1=>i3 e2 λrz t2 v2=>Y5 h v1 v2 q)
theorem Gb (ok:c.Ok d)(hu:A.units<=9000)(hn:aV c m ac ah H s)(he:O0 c v sc ts l cv C ac ah s.heap)(hc:rD v sc ts t ifs)(h:oU t l cv H=some b)
  (q:∀t,Q b {s with toks:=t}):wpAny (model c.prog c.w) A (forIn ifs true λy r=>if r=true then do let ok<-isTrue y (qH c sc C) (eval y (qH c sc C));pure (ForInStep.yield ok) else pure (ForInStep.yield r)) Q E s:=by
 unfold oU at h
 cases hc with
 |none=>cases h;exact wpAny_tests_nil (q s.toks)
 |some a b' l' r p h1 h2 h3=>
  dsimp only at h
  refine aZ (Option.bind_eq_some_iff.mp h) λy e1 h=> ?_
  refine aZ (Option.bind_eq_some_iff.mp h) λz e2 h=> ?_
  refine wpAny_tests_one (Ec (oJ (t0:=s.toks) ok hn he h2 e1 λry t1 v1=>oJ ok hn he h3 e2 λrz t2 v2=> ?_) h1)
  exact EJ (op:= .eq) (hn.toks t2) hu v1 v2 h λt3=>wpAny_truthy_bool (q t3)
theorem J7 (ok:c.Ok d)(hn:aV c m ac ah H s)(he:O0 c v sc ts l cv C ac ah s.heap){k:EK}(hc:Co v sc ts k x)(h:MG k l cv H=some val)
  (q:∀p rx s',aV c m p ah H s'->(∀b o,s.heap.get? b=some o->s'.heap.get? b=some o)->(p.map (·.1)=ac.map (·.1)∨p.map (·.1)=s.heap.objs.size::ac.map (·.1))->bq [] ac ah p ah->av p ah val rx->Q rx s'):
  wpAny (model c.prog c.w) A (eval x (qH c sc C)) Q E {s with toks:=t0}:=by
 cases hc with
 |one e x h1=>exact oJ ok hn he h1 h λrx t vx=>q _ rx _ (hn.toks t) (λu8 u8 e=>e) (.inl rfl) bq.refl vx
 |pair a b x y kk p h1 h2 h3 h4=>
  refine aZ (Option.bind_eq_some_iff.mp (show (wN a l cv H).bind _=some val from h)) λy e1 h=> ?_
  refine aZ (Option.bind_eq_some_iff.mp h) λz e2 h=> ?_
  cases h
  refine NU h1 h2 (oJ ok hn he h3 e1 λry t1 v1=>oJ ok hn he h4 e2 λrz t2 v2=> ?_)
  refine hn.gE λg T F N=> ?_
  refine newTuple_NK (s:={s with toks:=t2}) F N (λh' F' N' hk=> ?_) (by rw [eW];simp)
  obtain ⟨b1,b2,b3⟩:=kt (t:=t2) hn T F' N' hn.lt (.cons v1 (.cons v2 .nil)) (by show 2<=4096;exact lE rfl)
  exact q _ _ _ b1 hk (.inr rfl) b2 b3
theorem aV.off (hn:aV c m ac ah H s)(hC:B∉ac.map (·.1))(hL:B≠c.L)(hg:c.g₀.objs.size<=B){t:Nat}(he:Heap.ExtBut B s.heap h'):aV c m ac ah H {s with heap:=h',toks:=t}:=by
 obtain ⟨⟨g,T,F,N⟩,nd,hr,ce,sh⟩:=hn
 refine ⟨⟨g,T,⟨F.ns.extBut he (Ne.symm hL),λb o e=>he b o (λq=> ?_) (F.keep b o e),F.above⟩,λp hp=> ?_⟩,nd,hr,ce,sh⟩
 ·exact absurd (Nat.lt_of_lt_of_le (T.size▸Heap.lt_size e) hg) (by rw [q];exact Nat.lt_irrefl _)
 ·refine rB (N p hp) λa1 a2 a3=> ?_
  exact ⟨he _ _ (λq=>hC (q▸ip (f:=(·.1)) hp)) a1,a2,a3⟩
theorem aV.adopt (hn:aV c m ac ah H s)(hD:s.heap.get? D=some (listOf aC.toArray nn))(hk:D∉ac.map (·.1))(lO:∀p∈ah,p.1<D/\p.2<D)(hL:D≠c.L)(hg:c.g₀.objs.size<=D)(hv:aH ac ah vs aC)(hl:vs.length<=big):
  aV c m ((D,listOf aC.toArray nn)::ac) (ah++ [(D,D)]) (H++ [.list vs]) s/\bq [] ac ah ((D,listOf aC.toArray nn)::ac) (ah++ [(D,D)])/\av ((D,listOf aC.toArray nn)::ac) (ah++ [(D,D)]) (.ref H.length) (.ref D):=by
 obtain ⟨⟨g,T,F,N⟩,nd,hr,ce,sh⟩:=id hn
 have X:bq [] ac ah ((D,listOf aC.toArray nn)::ac) (ah++ [(D,D)]):=bq.app _ _
 have NM:g.get? D=none:=Heap.get?_none_of_le (by rw [T.size];exact hg)
 refine ⟨⟨⟨g,T,F,λp hp=> ?_⟩, ?_,⟨by simp [hr.len],λi o' p e hp=> ?_, ?_,λp hp=> ?_,λp hp=> ?_⟩,λy a e=>let ⟨o,v,h1,h2⟩:=ce y a e;⟨o,v, .tail _ h1,h2⟩,sh⟩,X,sb hn⟩
 ·rcases cH hp with e|hp
  ·subst e;exact ⟨hD,hL,NM⟩
  ·exact N p hp
 ·rw [dZ,List.nodup_cons];exact ⟨hk,nd⟩
 ·rcases Nat.lt_or_ge i H.length with l|l
  ·rw [iT l] at e
   rw [iT (by rw [hr.len];exact l)] at hp
   exact (hr.obj i o' p e hp).keep (bq.app (X:= []) _ _) λu8 hr u8=> .tail _ hr
  ·have:i=H.length:=by
    have:=(gw e).1
    simp at this;lia
   subst this
   rw [eJ (bS _)] at e
   rw [<-hr.len,eJ (bS _)] at hp
   simp at e hp
   subst e hp
   exact .list (.head _) (hv.ext X) hl
 ·rw [List.pairwise_append]
  refine ⟨hr.apart,by simp,λp hp q hq=> ?_⟩
  rw [List.mem_singleton] at hq
  subst hq
  have a:=lO p hp
  have b:=hr.DG p hp
  lia
 ·rcases gf hp with hp|hp
  ·exact hr.DG p hp
  ·rw [List.mem_singleton] at hp
   subst hp;exact bS _
 ·rcases gf hp with hp|hp
  ·obtain ⟨o,ho⟩:=hr.there p hp
   exact ⟨o, .tail _ ho⟩
  ·rw [List.mem_singleton] at hp
   subst hp;exact ⟨_, .head _⟩
theorem Be (hf:sc.kind= .function)(hx:sc.names.lookup x=some .local)(hC:s.heap.Ns C mC)
  (q:∀h',h'.Ns C (λy=>if y=x then some rv else mC y)->Heap.SameBut C s.heap h'->Q () {s with heap:=h',toks:=s.toks+1}):wpAny M A (assign (.Name x p) (qH c sc C) rv) Q E s:=
 wpAny_assign_Name (wpAny_storeName_local (lookup_relabel_local hx) hC q (by
  show (sc.kind==ScopeKind.class||(sc.kind==ScopeKind.module&&_))=false
  rw [hf];rfl))
theorem FL (hf:sc.kind= .function)(h:DD es xs):∀{rs:List Value} {mC:Str->Option Value} {s:Shared} {Q:Unit->Shared->Prop},(∀x∈xs,sc.names.lookup x=some .local)->xs.Nodup->xs.length=rs.length->s.heap.Ns C mC->
  (∀h' t HI,h'.Ns C HI->Heap.ExtBut C s.heap h'->(∀(j:Nat) (x:Str) (rv:Value),xs[j]? =some x->rs[j]? =some rv->HI x=some rv)->(∀x,x∉xs->HI x=mC x)->Q () {s with heap:=h',toks:=t})->wpAny M A (assignInOrder (es.map λt=>assign t (qH c sc C)) rs) Q E s:=by
 induction h with
 |nil=>
  intro rs mC s Q _ _ hl hC q
  cases rs with
  |nil=>exact br (q s.heap s.toks mC hC (Heap.ExtBut.refl _ _) (λj x rv e=>fe e) λu8 u8=>rfl)
  |cons _ _=>exact Og hl
 |cons x p es xs t ih=>
  intro rs mC s Q h2 h3 hl hC q
  cases rs with
  |nil=>exact Vv hl
  |cons rv rs=>
  rw [List.nodup_cons] at h3
  refine ar (wpAny_holding (Be hf (h2 x (.head _)) hC λh' Nf Lf=> ?_))
  refine ih (s:={s with heap:=h',toks:=s.toks+1}) (λy hy=>h2 y (.tail _ hy)) h3.2 (Nat.succ.inj hl) Nf λkf t HI a1 a2 a3 a4=>q kf t HI a1 (Lf.extBut.trans a2) (λj y ry e1 e2=> ?_) λy hy=> ?_
  ·cases j with
   |zero=>
    rw [<-cq e1,<-cq e2,a4 _ h3.1];exact if_pos rfl
   |succ j=>exact a3 j y ry e1 e2
  ·rw [List.mem_cons,not_or] at hy
   rw [a4 y hy.2]
   exact if_neg hy.1
theorem DD.len (h:DD es xs):es.length=xs.length:=by
 induction h with
 |nil=>rfl
 |cons x p es xs t ih=>exact congrArg (·+1) ih
theorem Dh (h:w≠1)(e:oS w y=some cv):y= .tuple cv/\cv.length=w:=by
 unfold oS at e
 rw [if_neg h] at e
 cases y with
 |tuple vs=>
  change (if vs.length=w then some vs else none)=some cv at e
  split at e
  ·have:=cq e
   subst this
   exact ⟨rfl,‹_›⟩
  ·exact fe e
 |_=>exact fe e
theorem C0 (hh:A.handled=none)(hf:sc.kind= .function){tg:Expr}(Hb:Tg w tg ts)(Da:∀x∈ts,sc.names.lookup x=some .local)(nd:ts.Nodup)(hn:aV c m ac ah H s)(vy:av ac ah y ry)(hb:oS w y=some cv)
  (hC:s.heap.Ns C mC) (q:∀h' t HI,h'.Ns C HI->Heap.ExtBut C s.heap h'->(∀(j:Nat) (x:Str) (val:SV),ts[j]? =some x->cv[j]? =some val->∃rv,HI x=some rv/\av ac ah val rv)->Q () {s with heap:=h',toks:=t}):
  wpAny (model c.prog c.w) A (assign tg (qH c sc C) ry) Q E s:=by
 cases Hb with
 |name x p=>
  cases hb
  refine Be hf (Da x (.head _)) hC λh' Nf Lf=>q h' _ _ Nf Lf.extBut λj z val e1 e2=> ?_
  cases j with
  |zero=>exact ⟨ry,by rw [<-cq e1];exact if_pos rfl,cq e2▸vy⟩
  |succ j=>exact fe e1
 |tup es k p xs w h1 h2 h3=>
  obtain ⟨rfl,em⟩:=Dh h1 hb
  refine x7 (cS vy) λaC a dc hm nG wH=> ?_;subst dc
  refine rB (h3.each (env:=qH c sc C)) λa1 a2 a3=> ?_
  have hT:IsTup s.heap a aC.toArray:=⟨_,hn.addr hm,rfl,_,rfl⟩
  have hle:ts.length=aC.length:=by rw [h2,<-em,nG.length]
  refine assign_Tuple_tuple hh hT (by rw [a1,List.size_toArray,h3.len,hle]) a2 λh' he=> ?_
  rw [a3]
  have hk:∀b o,s.heap.get? b=some o->h'.get? b=some o:=λb o e=>he b o (cV (Heap.lt_size e)) e
  refine FL (s:={s with heap:=h' }) hf h3 Da nd hle (hC.keeps hk) λkf t HI b1 b2 b3 b4=>q kf t HI b1 (λb o lG e=>b2 b o lG (hk b o e)) λj x val e1 e2=> ?_
  refine aZ (nG.at e2) λrv r1 r2=> ?_
  exact ⟨rv,b3 j x rv e1 r1,r2⟩
theorem bC.P5 (hit:it∉c.X)(x:bq [it] ac ah n1 l1)(h:bC c v l m ac ah):bC c v l m n1 l1:=
 ⟨λy i val h1 h2 h3=>let ⟨rv,a,b⟩:=h.loc y i val h1 h2 h3;⟨rv,a,b.ext x⟩,λy i val h1 h2 h3=>by
  refine HV (h.I4 y i val h1 h2 h3) λa o rv a1 a2 a3 a4=> ?_
  exact ⟨a,o,rv,a1,x.cell _ a2 (ku a3) (by
   intro q
   rw [List.mem_singleton] at q
   exact hit (q▸List.mem_map.mpr ⟨_,eM a1,rfl⟩)),a3,a4.ext x⟩⟩
theorem Af (nd:(ac.map (·.1)).Nodup)(hm:(it,o)∈ac)(hs:dV o=false):bq [it] ac ah (eE it ac) ah:=
 ⟨⟨[],(ch _).symm⟩,λp hp q=>bz.mpr ⟨hp,λe=>by
  have:p.2=o:=fb (a:=it) nd (by rw [<-e];exact hp) hm
  rw [this,hs] at q;exact yb q⟩,λp hp q z=>bz.mpr ⟨hp,λe=>z (by rw [e];simp)⟩⟩
structure CP where
 w:Nat
 k:EK
 t:Option (SE×SE)
 x:SV
 l:cR
 C:Addr
 D:Addr
 it:Addr
 n0:ao
 total:List SV
inductive EQ (c:Cx)(m:Str->Option Value)(ah:dN)(H:HP)(p:CP)(n:Nat)(s:Shared):Prop
 |mk {j:Nat} {aI d9:List SV} {ac:ao} {aC:List Value} {nn:Nat} {mC:Str->Option Value} (go:gD p.w p.k p.t p.x p.l H n j=some aI) (Zq:d9++aI=p.total) (now:aV c m ac ah H s) (it:jC ac ah p.x j p.it) (nD:p.D∉ac.map (·.1)) (nC:p.C∉ac.map (·.1))
  (hD:s.heap.get? p.D=some (listOf aC.toArray nn)) (hC:s.heap.Ns p.C mC) (vs:aH ac ah d9 aC) (X:bq [p.it] p.n0 ah ac ah):EQ c m ah H p n s
inductive KR (c:Cx)(m:Str->Option Value)(ah:dN)(H:HP)(p:CP)(s:Shared):Prop
 |mk {ac:ao} {aC:List Value} {nn:Nat} {mC:Str->Option Value} (now:aV c m ac ah H s) (nD:p.D∉ac.map (·.1)) (nC:p.C∉ac.map (·.1)) (hD:s.heap.get? p.D=some (listOf aC.toArray nn)) (hC:s.heap.Ns p.C mC) (vs:aH ac ah p.total aC) (X:bq [p.it] p.n0 ah ac ah)
  (nI:p.it∉ac.map (·.1)):KR c m ah H p s
structure Ta (c:Cx)(p:CP):Prop where
 hit:p.it∉c.X
 Np:p.C≠c.L
 NJ:c.g₀.objs.size<=p.C
 Wc:p.D≠c.L
 Xx:c.g₀.objs.size<=p.D
 Nw:p.D≠p.C
 big:p.total.length<=big
theorem Dy (ok:c.Ok d)(V:sy c v)(hh:A.handled=none)(hu:A.units<=9000)(P:Ta c p){elt tg iter:Expr}(hf:sc.kind= .function)(Da:∀x∈ts,sc.names.lookup x=some .local)(TL:ts.Nodup)
  (hk:Co v sc ts p.k elt) (Au:rD v sc ts p.t ifs) (Hb:Tg p.w tg ts) (hL:bC c v p.l m p.n0 ah) {R:Result->Shared->Prop} (fin:∀s',KR c m ah H p s'->R (.ok .next) s') (n:Nat) (h0:EQ c m ah H p n s):
  codeAny (model c.prog c.w) A (.compLoop (.ListComp elt [⟨tg,iter,ifs,0⟩] sc pos) 0 (.ref p.it) (.ref p.D) (qH c sc p.C)) R s:=by
 refine codeAny_loop rfl (EQ c m ah H p) (λn s hI=> ?_) n h0
 show wpAny _ A ((compTurn (.ListComp elt [⟨tg,iter,ifs,0⟩] sc pos) 0 (.ref p.it) (.ref p.D) (qH c sc p.C)).onRaise (λx=>do noteFrame x (qH c sc p.C);theTreesLotGoes x)) _ _ s
 refine wpAny_noted ?_
 rw [compTurn_list]
 refine cps λG K=> ?_
 cases hI with
 | @mk j aI d9 ac aC nn mC h1 kS hn hi HG JW hD hC hv hX=>
 refine Kc hi.obj λob HH KG KW LZ=> ?_
 have ME:p.it∈ac.map (·.1):=ip (f:=(·.1)) HH
 have OG:p.D≠p.it:=λe=>HG (e▸ME)
 have OJ:p.C≠p.it:=λe=>JW (e▸ME)
 cases n with
 |zero=>exact fe h1
 |succ n=>
 change (match ct p.x j H with
  |none=>none
  |some none=>some []
  |some (some y)=>(oS p.w y).bind λcv=>(oU p.t p.l cv H).bind λb=>match b with
   |false=>gD p.w p.k p.t p.x p.l H n (j+1)
   |true=>(MG p.k p.l cv H).bind λx=>(gD p.w p.k p.t p.x p.l H n (j+1)).map (x:: ·))=some aI at h1
 cases e:ct p.x j H with
 |none=>rw [e] at h1;exact fe h1
 |some r=>
 rw [e] at h1
 cases r with
 |none=>
  cases h1
  rw [ch] at kS
  subst kS
  have sub:∀a,a∉ac.map (·.1)->a∉(eE p.it ac).map (·.1):=λa ha hm=>by
   refine aZ (gH hm) λp hp q=> ?_
   exact ha (List.mem_map.mpr ⟨p,(bz.mp hp).1,q⟩)
  have X2:bq [p.it] ac ah (eE p.it ac) ah:=Af hn.nd HH KW
  refine K (ar (wpAny_standAt (ar (vX hh hn hi e λs' je he=> ?_))))
  refine br (fin _ (.mk je (sub _ HG) (sub _ JW) (he _ _ OG hD) (hC.extBut he OJ) (hv.ext X2) (hX.trans X2) λhm=> ?_))
  refine aZ (gH hm) λp hp q=> ?_
  exact (bz.mp hp).2 q
 |some y=>
 refine aZ (Option.bind_eq_some_iff.mp h1) λcv b1 h1=> ?_
 refine aZ (Option.bind_eq_some_iff.mp h1) λb b2 h1=> ?_
 refine K (ar (wpAny_standAt (ar (vX hh hn hi e ?_))))
 intro n1 s1 ry cN M0 rM X1 I0 vy
 refine ar (xG cN I0 ?_)
 have XH:=hC.extBut M0 OJ
 have M2:p.C∉n1.map (·.1):=by rw [rM];exact JW
 have O3:p.D∉n1.map (·.1):=by rw [rM];exact HG
 have PU:=hX.trans X1
 refine ar (C0 hh hf Hb Da TL cN vy b1 XH λh2 t2 Zo L0 QD own=> ?_)
 have fK:aV c m n1 ah H {s1 with heap:=h2,toks:=t2}:=cN.off M2 P.Np P.NJ QD
 have S1:h2.get? p.D=some (listOf aC.toArray nn):=QD _ _ P.Nw (M0 _ _ OG hD)
 have rd:O0 c v sc ts p.l cv p.C n1 ah h2:=Xb ok V hf fK (hL.P5 P.hit PU) L0 own
 refine ar (Gb ok hu fK rd Au b2 λt3=> ?_)
 refine cps λG K=> ?_
 cases b with
 |false=>exact K<|br ⟨rfl,n,Nat.lt_succ_self n, .mk h1 kS (fK.toks t3) I0 O3 M2 S1 L0 (hv.ext X1) PU⟩
 |true=>
  refine aZ (Option.bind_eq_some_iff.mp h1) λz b3 h1=> ?_
  refine aZ (Option.map_eq_some_iff.mp h1) λVp b4 dc=> ?_;subst dc
  have NZ:aC.toArray.size<=sizeLine:=by
   have h5:p.total.length<=4096:=P.big
   rw [<-kS,aL,hv.length] at h5
   rw [List.size_toArray,eW]
   exact cy (cy (gR _ _) h5) (by decide)
  refine K<|ar (ar (J7 ok fK rd hk b3 λn' rx s4 O1 Uz Pi X4 vx=>ar (wpAny_list_append_plain ⟨nn,Uz _ _ S1⟩ (λh5 Zk Ut=>br (br ⟨rfl,n,Nat.lt_succ_self n, ?_⟩)) NZ)))
  have fresh:∀a,a∉n1.map (·.1)->(∃o,h2.get? a=some o)->a∉n'.map (·.1):=λa ha ⟨o,ho⟩=>by
   rcases Pi with q|q<;>rw [q]
   ·exact ha
   ·rw [List.mem_cons,not_or]
    exact ⟨cV (Heap.lt_size ho),ha⟩
  have Vt:=fresh p.D O3 ⟨_,S1⟩
  have WC:=fresh p.C M2 (let ⟨o,_,_,ho,_⟩:=L0;⟨o,ho⟩)
  obtain ⟨n5,Xz⟩:=Zk
  exact .mk (aC:=aC++ [rx]) (nn:=n5) b4 (by rw [bZ];exact kS) (O1.off (t:=s4.toks) Vt P.Wc P.Xx Ut.extBut) (I0.ext X4 (by simp)) Vt WC
   (by rw [show (aC++ [rx]).toArray=aC.toArray.push rx by simp];exact Xz) ((L0.keeps Uz).extBut Ut.extBut (Ne.symm P.Nw)) (((hv.ext X1).ext X4).append (.cons vx .nil)) (PU.trans X4.wide)
theorem JO (hn:aV c m ac ah H s)(hi:jC ac ah x j it)(hb:ka x=false)(q:Q (.ref it) s):wpAny (model c.prog c.w) A (pyIter (.ref it)) Q E s:=by
 cases hi with
 |list hp hm hc hd=>exact wpAny_pyIter_listiter ⟨_,hn.addr hm,hc,hd⟩ q
 |range hm ho e1 e2=>subst ho;exact wpAny_pyIter_rangeiter (hn.addr hm) q
 |bytes LS hm hc hd=>cases hb
set_option tactic.hygienic true in
theorem vc (ok:c.Ok d)(V:sy c v)(hh:A.handled=none)(hu:A.units<=9000)(hn:aV c m ac ah H s)(hL:bC c v l m ac ah)(hx:av ac ah x rx){k:EK}(hv:gu w k t x l H=some vs){elt tg iter:Expr}
  (Kf:sI v sc ts=true) (hk:Co v sc ts k elt) (Au:rD v sc ts t ifs) (Hb:Tg w tg ts) (sG:stop iter=false)
  (q:∀D C az bM mC s',aV c m az bM (H++ [.list vs]) s'->bq [] ac ah az bM->av az bM (.ref H.length) (.ref D)->s'.heap.Ns C mC->C∉az.map (·.1)->C≠c.L->c.g₀.objs.size<=C->compPost (model c.prog c.w) A E use Q (.ref D) C (.ok .next) s'):
  wpAny (model c.prog c.w) A (comprehension (.ListComp elt [⟨tg,iter,ifs,0⟩] sc pos) sc c.env pos' (newList []) false (pure rx) use) Q E s:=by
 unfold sI at Kf
 simp only [Bool.and_eq_true,beq_iff_eq,decide_eq_true_eq,List.all_eq_true,Bool.or_eq_true,bne_iff_ne,ne_eq] at Kf
 obtain ⟨⟨⟨⟨hf,Zy⟩,TL⟩,Da⟩,nV⟩:=Kf
 have Pb:∀y∈sc.names,y.2≠ .cell:=λy hy=>(nV y hy).1.1
 have LW:∀y∈sc.names,y.2= .local->sc.names.lookup y.1=some .local:=λy hy e=>((nV y hy).1.2).elim (λz=>absurd e z) id
 have PK:∀p∈sc.names,p.2= .free->∃a,c.env.cells.lookup p.1=some a:=λp hp e=>by
  rcases (nV p hp).2 with z|⟨z1,z2⟩
  ·exact absurd e z
  ·obtain ⟨i,hi⟩:=Option.isSome_iff_exists.mp z2
   rcases V.kind _ _ hi with z|⟨_,a,ha⟩
   ·rw [<-V.sc,z1] at z;cases z
   ·exact ⟨a,ha⟩
 unfold gu at hv
 by_cases hb:ka x=true
 ·rw [if_pos hb] at hv;exact nh hv
 rw [if_neg hb] at hv
 have LS:ka x=false:=by simpa using hb
 refine aZ (Option.bind_eq_some_iff.mp hv) λYo Rd hv=> ?_
 split at hv
 case isFalse=>exact nh hv
 rename_i wH
 cases hv
 have Tk:ct x 0 H≠none:=λe=>by
  rw [Fo] at Rd
  rw [e] at Rd;exact nh Rd
 have RR:=A7 ok hn
 have Pu:c.L<s.heap.objs.size:=by
  refine hn.gE λg T F N=> ?_
  refine Re F.ns λo u8 u8 ho u8=> ?_
  exact Heap.lt_size ho
 have PR:c.g₀.objs.size<=s.heap.objs.size:=by
  refine hn.gE λg T F N=> ?_
  have:=F.above
  rw [T.size] at this
  exact Nat.le_of_lt (fJ this Pu)
 refine wpAny_comprehension_free (cl:=qR c.env sc.names []) rfl ((pl _).fold sG _) (JJ PK) hf LW (br (BK hn hx Tk λo s1 cN I0=> ?_))
 refine wpAny_newObj_type (wpAny_newFunctionEnv Pb (by intro y hy;simp at hy) (λh₁ zG ww=> ?_) hf)
 dsimp only at zG ww⊢
 generalize Tz:s1.heap.push {cls:= .type "list",dict:=none,data:= .seq ([]:List Value).toArray}=H2 at zG ww⊢
 have hC:H2.objs.size=s1.heap.objs.size+1:=by rw [<-Tz,Heap.size_push]
 have OT:s.heap.objs.size<s1.heap.objs.size:=cN.lt _ (.head _)
 have Nw:s1.heap.objs.size≠H2.objs.size:=by rw [hC];exact cV (Nat.lt_succ_self _)
 have cx:∀b o,s1.heap.get? b=some o->h₁.get? b=some o:=λb o e=>ww.extBut b o (cV (hC▸Nat.lt_succ_of_lt (Heap.lt_size e))) (fI _ (Tz▸fI _ e))
 have hD:h₁.get? s1.heap.objs.size=some (listOf ([]:List Value).toArray 0):=ww.extBut _ _ Nw (fI _ (Tz▸Heap.get?_push_size _ rfl))
 have fK:aV c m ((s.heap.objs.size,o)::ac) ah H {s1 with heap:=h₁,toks:=s1.toks}:=cN.grown (t:=s1.toks) cx
 have hit:s.heap.objs.size∉c.X:=λq=>Nat.lt_irrefl _ (RR _ q)
 have ou:∀a,s1.heap.objs.size<=a->a∉((s.heap.objs.size,o)::ac).map (·.1):=λa ha hm=>by
  refine aZ (gH hm) λp hp e=> ?_
  have:=cN.lt p hp
  rw [e] at this
  exact Nat.lt_irrefl _ (Nat.lt_of_lt_of_le this ha)
 have Sg:c.L<s1.heap.objs.size:=dR Pu OT
 have NM:c.g₀.objs.size<=s1.heap.objs.size:=cy PR (Nat.le_of_lt OT)
 have UR:H2.objs.size≠c.L:=by rw [hC];exact Nat.ne_of_gt (Nat.lt_succ_of_lt Sg)
 have UT:c.g₀.objs.size<=H2.objs.size:=by rw [hC];exact Nat.le_succ_of_le NM
 have loop:codeAny (model c.prog c.w) A (.compLoop (.ListComp elt [⟨tg,iter,ifs,0⟩] sc pos) 0 (.ref s.heap.objs.size) (.ref s1.heap.objs.size) (qH c sc H2.objs.size)) (compPost (model c.prog c.w) A E use Q (.ref s1.heap.objs.size) H2.objs.size) {s1 with heap:=h₁,toks:=s1.toks}:=by
  refine Dy (p:=⟨w,k,t,x,l,H2.objs.size,s1.heap.objs.size,s.heap.objs.size,(s.heap.objs.size,o)::ac,vs⟩) ok V hh hu ⟨hit,UR,UT,Nat.ne_of_gt Sg,NM,Nw,wH⟩ hf Da TL hk Au Hb (hL.ext (bq.cons _)) (λs3 z=> ?_) (fa x H+1)
   (.mk Rd rfl fK I0 (ou _ (bS _)) (ou _ (by rw [hC];exact Nat.le_succ _)) hD zG .nil bq.refl)
  cases z with
  | @mk n3 aC nn mC rK HG JW XY Xw YY X3 ME=>
  have lO:∀p∈ah,p.1<s1.heap.objs.size/\p.2<s1.heap.objs.size:=λp hp=>by
   obtain ⟨ob,JF⟩:=cN.hr.there p hp
   have a:=cN.lt _ JF
   have b:=cN.hr.DG p hp
   exact ⟨a,fJ b a⟩
  refine rB (rK.adopt XY HG lO (Nat.ne_of_gt Sg) NM YY wH) λa1 a2 a3=> ?_
  refine q _ _ _ _ _ _ a1 ?_ a3 Xw ?_ UR UT
  ·have X0:bq [s.heap.objs.size] ac ah n3 ah:=(bq.cons _).trans X3
   exact bq.trans ⟨X0.ah,X0.tp,λp hp hq u8=>X0.cell p hp hq (by
    rw [List.mem_singleton]
    exact cV (hn.lt p hp))⟩ a2
  ·rw [dZ,List.mem_cons,not_or]
   exact ⟨Ne.symm Nw,JW⟩
 exact codeAny_compStart_list loop (JO fK I0 LS loop)
theorem aV.Bu (hn:aV c m ac ah H s){B:Addr}(hC:B∉ac.map (·.1))(hL:B≠c.L)(hg:c.g₀.objs.size<=B)(he:Heap.SameBut B s.heap h'):aV c m ac ah H {s with heap:=h' }:=hn.off (t:=s.toks) hC hL hg he.extBut
theorem tJ:comprehension e sc env pos' d9 false first use=first>>=λx=>comprehension e sc env pos' d9 false (pure x) use:=rfl
theorem Ix (V:sy c v)(hL:bC c v l m ac ah)(hy:v.ot.lookup y=some i)(hk:c.cs.names.lookup y=some .local)(hu:av ac ah u ru):bC c v (al l i u) (λz=>if z=y then some ru else m z) ac ah:=
 ⟨λz j val h1 h2 h3=>by
  by_cases e:z=y
  ·subst e
   rw [hy] at h1;cases h1
   rw [lr h2]
   exact ⟨ru,if_pos rfl,hu⟩
  ·rw [jl (pU V hy h1 (Ne.symm e))] at h2
   refine aZ (hL.loc z j val h1 h2 h3) λrv a1 a2=> ?_
   exact ⟨rv,by rw [if_neg e];exact a1,a2⟩,λz j val h1 h2 h3=>by
  have e:z≠y:=λe=>by subst e;rw [hk] at h3;cases h3
  rw [jl (pU V hy h1 (Ne.symm e))] at h2
  exact hL.I4 z j val h1 h2 h3⟩
variable {kk:Nat}{R:au}
theorem uN (ok:c.Ok d)(V:sy c v)(hA:lN c n (kk+1) A){elt tg iter:Expr}{k:EK}(hy:v.ot.lookup y=some i)(Nm:v.sc.names.lookup y=some .local)(EH:(py.line==yD.line)=true)
  (J2:(sc.names.any λp=>p.1==y&&(p.2== .local||p.2== .cell))=false) (Kf:sI v sc ts=true) (hk:Co v sc ts k elt) (Au:rD v sc ts t ifs) (Hb:Tg w tg ts) (sG:stop iter=false)
  (hI:∀(Q' :Value->Shared->Prop),(∀rx s1 x H1 n1 l1 vs,aV c m n1 l1 H1 s1->bC c v l m n1 l1->av n1 l1 x rx->gu w k t x l H1=some vs->bv c v n1 l1 (.next (al l i (.ref H1.length)) (H1++ [.list vs])) Q E->Q' rx s1)->aG (model c.prog c.w) A (eval iter c.env) Q' E s):aG (model c.prog c.w) A (exec (.Assign [.Name y py] (.ListComp elt [⟨tg,iter,ifs,0⟩] sc yD) K8) c.env) Q E s:=by
 rw [V.sc] at Nm
 have Wi:c.env.blockKind= .function:=by
  unfold Env.blockKind
  rw [ok.Mv];rfl
 have WE:swapsWith (.ListComp elt [⟨tg,iter,ifs,0⟩] sc yD) (some (.Name y py)) K8.line c.env=pure true:=by
  show (pure (c.env.blockKind== .function&&c.env.kindOf y==some .local&&py.line==yD.line&& !(sc.names.any λp=>p.1==y&&(p.2== .local||p.2== .cell))):Sem Bool)=pure true
  rw [Wi,show c.env.kindOf y=some .local from Nm,EH,J2]
  rfl
 rw [exec_Assign_Name_used _ _ _ _ WE]
 refine ag (aB (ag ?_))
 show aG _ A (do let _<-comprehension (.ListComp elt [⟨tg,iter,ifs,0⟩] sc yD) sc c.env _ (newList []) false (eval iter c.env) (some (assign (.Name y py) c.env))) _ _ s
 refine ag ?_
 rw [tJ]
 refine ag (hI _ λrx s1 x H1 n1 l1 vs cN kO vx hv h1=> ?_)
 refine aA (Q:=λu8 s' =>Q .next s') (ap (vc ok V hA.hand (by have:=hA.units;lia) cN kO vx hv Kf hk Au Hb sG λD C az bM mC s' je X' vD hC JW Np NJ=> ?_)) (λu8 s' q=> ?_)
 case refine_2=>exact aq (aq q)
 show wpAny _ A (assign (.Name y py) c.env (.ref D)) (λu8 nU=>∃m,nU.heap.Ns C m/\∀h',Heap.SameBut C nU.heap h'->Q .next {nU with heap:=h' }) E s'
 refine je.gE λg T F N=> ?_
 refine wpAny_assign_Name (wpAny_storeName_local (show c.env.kindOf y=some .local from Nm) F.ns (λh2 fK Nd=> ?_) (by
  show (c.cs.kind==ScopeKind.class||(c.cs.kind==ScopeKind.module&&_))=false
  rw [ok.kind];rfl))
 have fK:aV c (λz=>if z=y then some (.ref D) else m z) az bM (H1++ [.list vs]) {s' with heap:=h2,toks:=s'.toks+1}:=⟨⟨g,T,F.set fK Nd,N.set Nd⟩,je.nd,je.hr,je.cells,je.sh⟩
 exact ⟨mC,hC.sameBut Nd Np,λh3 Rz=>h1 _ _ _ _ (fK.Bu (B:=C) JW Np NJ Rz) X'.wide (Ix V (kO.ext X') hy Nm vD)⟩
theorem De (ok:c.Ok d)(RS:d8 c n R)(V:sy c v)(hA:lN c n (kk+1) A){elt tg iter:Expr}{k:EK}(hy:v.ot.lookup y=some i)(Nm:v.sc.names.lookup y=some .local)(EH:(py.line==yD.line)=true)
  (J2:(sc.names.any λp=>p.1==y&&(p.2== .local||p.2== .cell))=false) (hit:Ck c.S v iter it) (Kf:sI v sc ts=true) (hk:Co v sc ts k elt) (Au:rD v sc ts t ifs) (Hb:Tg w tg ts) (sG:stop iter=false):
  Ci c v A R (.Assign [.Name y py] (.ListComp elt [⟨tg,iter,ifs,0⟩] sc yD) K8) (.comp i w k t it):=by
 intro l m ac ah H s Q E hn hL h
 have h' :bv c v ac ah ((bj c.P R it l H).then l λu H=>match gu w k t u l H with
  |some vs=> .next (al l i (.ref H.length)) (H++ [.list vs])
  |none=> .bad) Q E:=h
 refine uN ok V hA hy Nm EH J2 Kf hk Au Hb sG (l:=l) (m:=m) λQ' K=>gc ok RS _ _ hit hA (eu ok V hL) hn (bv.then hL h' λx H1 n1 l1 s1 rx cN X1 kO vx h1=> ?_)
 cases hv:gu w k t x l H1 with
 |none=>rw [hv] at h1;exact h1.elim
 |some vs=>
 rw [hv] at h1
 exact K _ _ _ _ _ _ _ cN kO vx hv h1
set_option tactic.hygienic true in
theorem vQ (ok:c.Ok d)(RS:d8 c n R)(V:sy c v)(hA:lN c n (kk+1) A){elt tg iter:Expr}{k:EK}(hy:gh v y i=true)(hit:Ck c.S v iter it)(Kf:sI v sc ts=true)(hk:Co v sc ts k elt)(Hb:Tg w tg ts)(sG:stop iter=false):
  Ci c v A R (.Assign [.Name y py] (.BinOp (.Name y zp) .Add (.ListComp elt [⟨tg,iter, [],0⟩] sc yD) YT) K8) (.kU i w k it):=by
 intro l m ac ah H s Q E hn hL h
 change bv c v ac ah (match l[i]? with
  |some (some (.ref r))=>(bj c.P R it l H).then l λv H=>match gu w k none v l H with
   |some vs=>(match H[r]? with
    |some (.list cx)=>if cx.length+vs.length<=big then .next (al l i (.ref (H.length+1))) ((H++ [.list vs])++ [.list (cx++vs)]) else .bad
    |_=> .bad)
   |none=> .bad
  |_=> .bad) Q E at h
 split at h
 case h_2=>exact h.elim
 rename_i r hl
 have Y3:v.ot.lookup y=some i:=by
  unfold gh at hy
  simp only [Bool.and_eq_true,beq_iff_eq] at hy
  exact hy.1.1
 refine Bz ((pl _).swap rfl _ _ _) rfl rfl (JP ?_)
 refine aZ ((eu ok V hL).loc y i _ hy hl ac ah bq.refl) λrv vr hr=> ?_
 refine ap (hr _ _ _ _ _ _ hn ?_)
 rw [eval_ListComp]
 show aG _ A (comprehension (.ListComp elt [⟨tg,iter, [],0⟩] sc yD) sc c.env _ (newList []) false (eval iter c.env) none) _ E s
 rw [tJ]
 refine ag (gc ok RS _ _ hit hA (eu ok V hL) hn (bv.then hL h λx H1 n1 l1 s1 rx cN X1 kO vx h1=> ?_))
 cases hv:gu w k none x l H1 with
 |none=>rw [hv] at h1;exact h1.elim
 |some vs=>
 rw [hv] at h1
 dsimp only at h1
 split at h1
 case h_2=>exact h1.elim
 rename_i cx hold
 split at h1
 case isFalse=>exact h1.elim
 rename_i wH
 have lO:=(gw hold).1
 refine ap (vc ok V hA.hand (by have:=hA.units;lia) cN kO vx hv Kf hk rD.none Hb sG λD C az bM mC s' je X' vD hC JW Np NJ=>⟨mC,hC,λh3 Rz=> ?_⟩)
 have rK:=je.Bu (B:=C) JW Np NJ Rz
 have hb:cF .add (.ref r) (.ref H1.length) (H1++ [.list vs])= .ok (.ref (H1.length+1)) ((H1++ [.list vs])++ [.list (cx++vs)]):=by
  unfold cF
  dsimp only
  rw [iT lO,hold,eJ (bS _)]
  simp only [Nat.sub_self,List.getElem?_cons_zero,if_pos wH,aL,List.length_singleton]
 refine ap (FJ (op:= .add) ok rK ((vr.ext X1).ext X') vD hb λn4 l4 s4 Zv O1 X4 v4=> ?_)
 exact KX (ap (jt ok V O1 (kO.ext (X'.trans X4)) Y3 v4 λm' n5 s5 Sa X5 V5=>h1 _ _ _ _ Sa ((X'.trans X4).wide.trans X5) V5))
end
section
variable {c:Cx}{d n k:Nat}{v:CV}{A:Around}{R:au}{X:Nat->Bool}
structure BZ (c:Cx)(d n k:Nat)(R:au)(v:CV)(X:Nat->Bool)(A:Around):Prop where
 ok:c.Ok d
 RS:d8 c n R
 V:sy c v
 same:A=c.A
 A:lN c n (k+1) A
 exc:∀j,X j=true->i4 c.K (c.S.dF j)=true
theorem Fu (ok:c.Ok d):interactive c.env=false:=by
 unfold interactive
 rw [ok.Mv];rfl
structure GS (c:Cx)(v:CV)(A:Around)(R:au)(x:Stmt)(st:SS):Prop where
 g:Ci c v A R x st
structure BS (c:Cx)(v:CV)(A:Around)(R:au)(xs:List Stmt)(ss:cA):Prop where
 g:sP c v A xs (λl H=>aK c.P R ss l H)
theorem L9 (O:BZ c d n k R v X A)(h1:ol x=false)(h2:Ck c.S v x e):Ci c v A R (.Expr x p) (.expr e):=by
 intro l m ac ah H s Q E hn hL h
 have h' :bv c v ac ah ((bj c.P R e l H).then l λv H=>match v with| .none=> .next l H| .int _=> .next l H| .bytes _=> .next l H|_=> .bad) Q E:=h
 refine PG (Fu O.ok) ((pl _).swap h1 _ _ _) (gc O.ok O.RS e _ h2 O.A (eu O.ok O.V hL) hn (bv.then hL h' λu H1 n1 l1 s1 ru cN X1 kO vu h1=> ?_))
 cases vu with
 |none=>exact ⟨λa e=>(by cases e),h1 _ _ _ _ cN bq.refl kO⟩
 |int i t=>exact ⟨λa e=>(by cases e),h1 _ _ _ _ cN bq.refl kO⟩
 |bytes dp t _ _=>exact ⟨λa e=>(by cases e),h1 _ _ _ _ cN bq.refl kO⟩
 |_=>exact h1.elim
theorem Ob (O:BZ c d n k R v X A)(h2:Ck c.S v x e):Ci c v A R (.Return (some x) p) (.ret e):=by
 intro l m ac ah H s Q E hn hL h
 have h' :bv c v ac ah ((bj c.P R e l H).then l λv H=> .ret v H) Q E:=h
 exact Jl (gc O.ok O.RS e _ h2 O.A (eu O.ok O.V hL) hn (bv.then hL h' λu H1 n1 l1 s1 ru cN X1 kO vu h1=>h1 _ _ _ _ _ cN bq.refl vu))
theorem Pe (O:BZ c d n k R v X A)(h1:Ck c.S v x t)(h2:BS c v A R xs a)(h3:BS c v A R ys b):Ci c v A R (.If x xs ys p) (.ifs t a b):=by
 intro l m ac ah H s Q E hn hL h
 have h' :bv c v ac ah ((gK c.P R t l H).then l λt H=>match t with|true=>aK c.P R a l H|false=>aK c.P R b l H) Q E:=h
 refine VS (Gy O.ok O.RS t _ h1 O.A (eu O.ok O.V hL) hn (bv.then hL h' λu H1 n1 l1 s1 ru cN X1 kO vu h4=> ?_))
 cases vu
 cases u with
 |true=>exact h2.g cN kO h4
 |false=>exact h3.g cN kO h4
theorem Qm (O:BZ c d n k R v X A){tg x:Expr}(h1:stop x=false)(h2:CT v tg is)(h3:Ck c.S v x it)(h4:BS c v A R xs b):Ci c v A R (.For tg x xs [] p) (.jd is it b):=by
 intro l m ac ah H s Q E hn hL h
 have h' :bv c v ac ah ((bj c.P R it l H).then l λu H=>forLoop is (λl H=>aK c.P R b l H) u (fa u H+1) 0 l H) Q E:=h
 refine T4 h1 (gc O.ok O.RS it _ h3 O.A (eu O.ok O.V hL) hn (bv.then hL h' λu H1 n1 l1 s1 ru cN X1 kO vu h5=> ?_))
 have hs:ct u 0 H1≠none:=λe=>by
  rw [gj] at h5
  rw [e] at h5;exact h5
 refine ap (BK cN vu hs λo s' je hi=> ?_)
 have hit:s1.heap.objs.size∉c.X:=λq=>Nat.lt_irrefl _ (A7 O.ok cN _ q)
 have hX:bq c.X n1 l1 (eE s1.heap.objs.size ((s1.heap.objs.size,o)::n1)) l1:=⟨⟨[],(ch _).symm⟩,λp hp u8=>bz.mpr ⟨.tail _ hp,cV (cN.lt p hp)⟩,λp hp u8 u8=>bz.mpr ⟨.tail _ hp,cV (cN.lt p hp)⟩⟩
 exact t7 O.ok O.V O.A.hand h2 h4.g hit _ 0 je (kO.ext (bq.cons _)) hi hX h5
theorem MJ (O:BZ c d n k R v X A)(h1:Ck c.S v x t)(h2:BS c v A R xs b):Ci c v A R (.While x xs [] p) (.xB t b):=by
 intro l m ac ah H s Q E hn hL h
 have h' :bv c v ac ah (whileLoop (λl H=>gK c.P R t l H) (λl H=>aK c.P R b l H) 64 l H) Q E:=h
 exact MV (s9 O.ok h2.g (λhn hL h=>Gy O.ok O.RS t _ h1 O.A (eu O.ok O.V hL) hn h) 64 hn hL bq.refl h')
theorem He (O:BZ c d n k R v X A){ev:Value}
  (h1:eg v xx=true) (q:c.S.glob.lookup xx=some (.cls kq)) (h3:X kq=true) (h5:Ch c.S X v kq hs hh) (Pa:CS c az bM H s') (X1:bq c.X ac ah az bM) (kO:bC c v l' m' az bM) (GQ:kg c m' kq az ev s') (h' :bv c v ac ah (KC hh l' H) Q E):
  aG (model c.prog c.w) A (noteFrame ev c.env) (λu8 s₂=>aG (model c.prog c.w) A (setFlight ev none) (λu8 s₃=>aG (model c.prog c.w) A (handleBy ev c.env [.ExceptHandler (some (.Name xx np)) none hs p1]) Q E s₃) E s₂) E s' :=by
 have lG:∃b0 r0,hs=b0::r0:=by
  cases h5<;>exact ⟨_,_,rfl⟩
 refine Ad lG λb0 r0 dc=> ?_;clear lG;subst dc
 have hg:=h1
 unfold eg at hg
 simp only [Bool.and_eq_true,beq_iff_eq,bne_iff_ne,ne_eq] at hg
 rw [O.V.sc] at hg
 refine ap (wpAny_mono (Df O.ok O.A.frames Pa GQ (O.exc _ h3) hg.1 (eX hg.2) (O.ok.mW.EV _ _ q) (np:=np) (pos:=p1) (aI:= []) (Q:=Q) (E:=E) λe Ku he LX je=> ?_) (λu8 u8 z=>ap (wpAny_mono z (λu8 u8 z=>ap z) λu8 u8 z=>z)) λu8 u8 z=>z)
 by_cases hr:∃k',hh= .raise k'
 ·obtain ⟨k',rfl⟩:=hr
  cases h5 with
  |raise x p s k q' r t j a1 a2 a3 a4 a5 a6=>
   unfold eg at a1
   simp only [Bool.and_eq_true,beq_iff_eq,bne_iff_ne,ne_eq] at a1
   rw [O.V.sc] at a1
   exact LV O.ok (O.V.Hd a6) je (LX a5) (O.exc _ a3) a4 a1.1 (eX a1.2) (O.ok.mW.EV _ _ a2) (λev s' nr lv=>(bv.base X1 h') _ _ s' ev nr bq.refl lv) O.same
 ·exact wpAny_mono (ML O.ok O.V h5 (λk e=>hr ⟨k,e⟩) je kO (bv.base X1 h')) (λu8 u8 z=>z) λu8 u8 z=>z.elim
set_option tactic.hygienic true in
theorem Pq (O:BZ c d n k R v X A)(h1:eg v xx=true)(h2:c.S.glob.lookup xx=some (.cls j))(h3:X j=true)(h4:BS c v A R xs b)(h5:Ch c.S X v j hs hh):
  Ci c v A R (.Try xs [.ExceptHandler (some (.Name xx np)) none hs p1] [] [] p2) (.lM b j hh):=by
 intro l m ac ah H s Q E hn hL h
 have h' :bv c v ac ah (match aK c.P R b l H with
  | .exc c' l H=>if c' =j then KC hh l H else .bad
  | .jp _ _=> .bad
  |o=>o) Q E:=h
 refine RG rfl (h4.g hn hL ?_)
 show bv c v ac ah (aK c.P R b l H) _ _
 cases eo:aK c.P R b l H with
 |next l1 H1=>rw [eo] at h';exact h'
 |cont l1 H1=>rw [eo] at h';exact h'
 |ret x1 H1=>rw [eo] at h';exact h'
 |jp _ _=>rw [eo] at h';exact h'.elim
 |bad=>rw [eo] at h';exact h'.elim
 |exc k1 l1 H1=>
  rw [eo] at h'
  dsimp only at h'
  split at h'
  ·rename_i hk
   subst hk
   exact λm1 n1 y1 s1 ev Pa X1 kO GQ=>He O h1 h2 h3 h5 Pa X1 kO GQ h'
  ·exact h'.elim
theorem LD (O:BZ c d n k R v X A){st:SS}(h1:GS c v A R x st)(h2:BS c v A R xs r):sP c v A (x::xs) (λl H=>aK c.P R (.cons st r) l H):=by
 intro l m ac ah H s Q E hn hL h
 have h' :bv c v ac ah (match gJ c.P R st l H with| .next l H=>aK c.P R r l H|o=>o) Q E:=h
 refine KN (h1.g hn hL ?_)
 show bv c v ac ah (gJ c.P R st l H) _ _
 cases eo:gJ c.P R st l H with
 |next l1 H1=>
  rw [eo] at h'
  exact λm1 n1 y1 s1 cN X1 kO=>h2.g cN kO (bv.base X1 h')
 |cont l1 H1=>rw [eo] at h';exact h'
 |ret x1 H1=>rw [eo] at h';exact h'
 |exc _ _ _=>rw [eo] at h';exact h'
 |jp _ _=>rw [eo] at h';exact h'
 |bad=>rw [eo] at h';exact h'.elim
structure Cs (S:lu)(X:Nat->Bool)(v:CV)(x:Stmt)(st:SS):Prop where
 s:∀{c:Cx} {d n k:Nat} {A:Around} {R:au},BZ c d n k R v X A->c.S=S->GS c v A R x st
structure xr (S:lu)(X:Nat->Bool)(v:CV)(xs:List Stmt)(ss:cA):Prop where
 s:∀{c:Cx} {d n k:Nat} {A:Around} {R:au},BZ c d n k R v X A->c.S=S->BS c v A R xs ss
end
section
variable {S:lu}{X:Nat->Bool}{v:CV}
theorem Cs.bad (x):Cs S X v x .bad:=⟨λO hS=>⟨λu8 u8 h=>h.elim⟩⟩
theorem Cs.pass (p):Cs S X v (.Pass p) .pass:=⟨λO hS=>⟨λhn hL h=>NG (h _ _ _ _ hn bq.refl hL)⟩⟩
theorem Cs.cont (p):Cs S X v (.Continue p) .cont:=⟨λO hS=>⟨λhn hL h=>O9 (h _ _ _ _ hn bq.refl hL)⟩⟩
theorem Cs.expr (x p e)(h1:ol x=false)(h2:Ck S v x e):Cs S X v (.Expr x p) (.expr e):=⟨λO hS=>⟨L9 O h1 (hS▸h2)⟩⟩
theorem Cs.j3 (t x p u e)(h1:ol x=false)(h2:Ck S v x e)(h3:Ct S v t x u):Cs S X v (.Assign [t] x p) (.j3 u e):=⟨λO hS=>⟨Dc O.ok O.RS O.V O.A h1 (hS▸h2) (hS▸h3)⟩⟩
theorem Cs.comp (y py elt tg ts iter ifs sc lp sp i w k t it)(h1:v.ot.lookup y=some i)(h2:v.sc.names.lookup y=some .local)(h3:(py.line==lp.line)=true)(h4:(sc.names.any λp=>p.1==y&&(p.2== .local||p.2== .cell))=false)(h5:Ck S v iter it)(h6:sI v sc ts=true)(h7:Co v sc ts k elt)(h8:rD v sc ts t ifs)(h9:Tg w tg ts)(DI:stop iter=false):Cs S X v (.Assign [.Name y py] (.ListComp elt [⟨tg,iter,ifs,0⟩] sc lp) sp) (.comp i w k t it):=⟨λO hS=>⟨De O.ok O.RS O.V O.A h1 h2 h3 h4 (hS▸h5) h6 h7 h8 h9 DI⟩⟩
theorem Cs.kU (y py zp elt tg ts iter sc lp bp sp i w k it)(h1:gh v y i=true)(h5:Ck S v iter it)(h6:sI v sc ts=true)(h7:Co v sc ts k elt)(h9:Tg w tg ts)(DI:stop iter=false):Cs S X v (.Assign [.Name y py] (.BinOp (.Name y zp) .Add (.ListComp elt [⟨tg,iter, [],0⟩] sc lp) bp) sp) (.kU i w k it):=⟨λO hS=>⟨vQ O.ok O.RS O.V O.A h1 (hS▸h5) h6 h7 h9 DI⟩⟩
theorem Cs.qh (x p y q i op e)(h1:gh v x i=true)(h2:tf op=true)(h3:Ck S v y e):Cs S X v (.AugAssign (.Name x p) (lK op) y q) (.qh i op e):=⟨λO hS=>⟨Dm O.ok O.RS O.V O.A h1 h2 (hS▸h3)⟩⟩
theorem Cs.sK (o p y q a op b e)(h1:tf op=true)(h2:Ck S v o b)(h3:Ck S v y e):Cs S X v (.AugAssign (.Attribute o (S.attr a) p) (lK op) y q) (.sK b a op e):=⟨λO hS=>hS▸⟨Dw O.ok O.RS O.V O.A (hS▸h2) h1 (hS▸h3)⟩⟩
theorem Cs.ret (x p e)(h:Ck S v x e):Cs S X v (.Return (some x) p) (.ret e):=⟨λO hS=>⟨Ob O (hS▸h)⟩⟩
theorem Cs.ifs (x xs ys p t a b)(h1:Ck S v x t)(h2:xr S X v xs a)(h3:xr S X v ys b):Cs S X v (.If x xs ys p) (.ifs t a b):=⟨λO hS=>⟨Pe O (hS▸h1) (h2.s O hS) (h3.s O hS)⟩⟩
theorem Cs.jd (t x xs p is it b)(h1:stop x=false)(h2:CT v t is)(h3:Ck S v x it)(h4:xr S X v xs b):Cs S X v (.For t x xs [] p) (.jd is it b):=⟨λO hS=>⟨Qm O h1 h2 (hS▸h3) (h4.s O hS)⟩⟩
theorem Cs.xB (x xs p t b)(h1:Ck S v x t)(h2:xr S X v xs b):Cs S X v (.While x xs [] p) (.xB t b):=⟨λO hS=>⟨MJ O (hS▸h1) (h2.s O hS)⟩⟩
theorem Cs.raise (x p m q r k e)(h1:eg v x=true)(h2:S.glob.lookup x=some (.cls k))(h3:X k=true)(h4:stop m=false)(h5:Ck S v m e)(h6:v5 v=true):Cs S X v (.Raise (some (.Call (.Name x p) [m] [] q)) none r) (.raise k e):=⟨λO hS=>⟨λhn hL h=>zK O.ok O.RS O.A O.V (O.V.Hd h6) (O.exc _ h3) h1 (hS▸h2) h4 (hS▸h5) hn hL h⟩⟩
theorem Cs.lM (xs x p hs q r k b h)(h1:eg v x=true)(h2:S.glob.lookup x=some (.cls k))(h3:X k=true)(h4:xr S X v xs b)(h5:Ch S X v k hs h):Cs S X v (.Try xs [.ExceptHandler (some (.Name x p)) none hs q] [] [] r) (.lM b k h):=⟨λO hS=>⟨Pq O h1 (hS▸h2) h3 (h4.s O hS) (hS▸h5)⟩⟩
theorem Cs.del (o j p q a i)(h1:Ck S v o a)(h2:Ck S v j i):Cs S X v (.Delete [.Subscript o j p] q) (.del a i):=⟨λO hS=>⟨Fj O.ok O.RS O.V O.A (hS▸h1) (hS▸h2)⟩⟩
theorem xr.nil:xr S X v [] .nil:=⟨λO hS=>⟨λhn hL h=>Jt (h _ _ _ _ hn bq.refl hL)⟩⟩
theorem xr.cons (x xs s ss)(h1:Cs S X v x s)(h2:xr S X v xs ss):xr S X v (x::xs) (.cons s ss):=⟨λO hS=>⟨LD O (h1.s O hS) (h2.s O hS)⟩⟩
end
section
variable {c:Cx}{d n k:Nat}{v:CV}{A:Around}{R:au}{X:Nat->Bool}
theorem A4 (O:BZ c d n k R v X A)(ss:cA)(xs:List Stmt)(h:xr c.S X v xs ss):sP c v A xs (λl H=>aK c.P R ss l H):=(h.s O rfl).g
end
end Mine
open PySem PySem.W PySem.Calls PyProof.Rows
namespace Mine
theorem yf {xs:List (Str×Value)}(h:x∉xs.map (·.1)):xs.lookup x=none:=by
 induction xs with
 |nil=>rfl
 |cons p l ih=>
  rw [List.lookup_cons,eX λe=>h (List.mem_cons.mpr (.inl e))]
  exact ih λq=>h (.tail _ q)
theorem yj {xs:List (Str×Value)}(h:x∈xs.map (·.1)):(xs.lookup x).isNone=false:=by
 induction xs with
 |nil=>exact j1 h
 |cons p l ih=>
  rw [List.lookup_cons]
  by_cases e:x=p.1
  ·rw [e,iu];rfl
  ·rw [eX e]
   exact ih ((cH h).resolve_left e)
theorem Cc {xs:List (Str×Value)}(nd:(xs.map (·.1)).Nodup)(hp:p∈xs):xs.lookup p.1=some p.2:=by
 induction xs with
 |nil=>exact j1 hp
 |cons q l ih=>
  have hq:=List.nodup_cons.mp nd
  rw [List.lookup_cons]
  rcases cH hp with rfl|hp
  ·rw [iu]
  ·have hm:p.1∈l.map (·.1):=ip (f:=(·.1)) hp
   rw [eX λe=>hq.1 (show q.1∈l.map (·.1) by rw [<-e];exact hm)]
   exact ih hq.2 hp
theorem KS {α:Type}{g:α->Option α}:∀{l:List α},(∀p∈l,g p=some p)->l.filterMap g=l
 | [],_=>rfl
 |p::l,h=>by rw [List.filterMap_cons,h p (.head _),KS λq hq=>h q (.tail _ hq)]
theorem wk {xs:List (Str×Value)}(nd:(xs.map (·.1)).Nodup):(xs.map (·.1)).filterMap (λn=>(xs.lookup n).map (n, ·))=xs:=by
 rw [List.filterMap_map]
 exact KS λp hp=>congrArg (Option.map (p.1, ·)) (Cc nd hp)
theorem CR {α β:Type}{vs dv:List β}:∀{ns:List α},ns.length=vs.length+dv.length->ns.zip vs++(ns.drop vs.length).zip dv=ns.zip (vs++dv):=by
 induction vs with
 |nil=>intro ns _;cases ns<;>rfl
 |cons v vs ih=>
  intro ns h
  cases ns with
  |nil=>exact absurd h (by rw [dq,List.length_nil];lia)
  |cons n ns=>exact congrArg ((n,v):: ·) (ih (Nat.succ.inj (h.trans (Nat.add_right_comm _ 1 _))))
theorem MW {γ:Type}{k:List (Str×Value)->Sem γ}(xs:List (Str×Value)):∀(s:List (Str×Value)),((s++xs).map (·.1)).Nodup->(forIn xs s (λx s=>if (s.lookup x.1).isNone=true then (pure (ForInStep.yield (s++ [(x.1,x.2)])):Sem _) else pure (ForInStep.yield s))>>=k)=k (s++xs):=by
 induction xs with
 |nil=>intro s _;rw [ch];rfl
 |cons x xs ih=>
  intro s nd
  rw [List.forIn_cons,if_pos]
  ·rw [show s++x::xs=(s++ [x])++xs from (bZ s [x] xs).symm] at nd⊢
   exact ih _ nd
  ·rw [eG] at nd
   rw [yf λh=>(List.nodup_append.mp nd).2.2 _ h _ (.head _) rfl];rfl
theorem Jx {α β:Type}{vs:List β}:∀{ns:List α},vs.length<=ns.length->(ns.zip vs).map (·.1)=ns.take vs.length:=by
 induction vs with
 |nil=>intro ns _;cases ns<;>rfl
 |cons v vs ih=>
  intro ns h
  cases ns with
  |nil=>exact absurd h (Nat.not_succ_le_zero _)
  |cons n ns=>exact congrArg (n:: ·) (ih (Nat.le_of_succ_le_succ h))
theorem Aj {ns:List Str}{vs:List Value}(h:vs.length<=ns.length):¬(!((ns.take vs.length).filter λn=>((ns.zip vs).lookup n).isNone).isEmpty)=true:=by
 rw [List.filter_eq_nil_iff.mpr λx hx=>by rw [yj (Jx h▸hx)];exact Bool.false_ne_true]
 exact Bool.false_ne_true
theorem oz {fd:FuncData}{as:List Arg}{vs:List Value}(hp:fd.params=⟨[],as,none, [], [],none,ds⟩)(nd:(as.map (·.arg)).Nodup):
  ∃k:Option (Array Value)->Sem (List (Str×Value)),bindArgs fd ⟨vs, []⟩=(seqItems? fd.defaults>>=k)/\∀r,as.length=vs.length+(r.getD #[]).toList.length->k r=pure ((as.map (·.arg)).zip (vs++(r.getD #[]).toList)):=by
 unfold bindArgs
 rw [hp]
 dsimp only
 rw [<-bI (f:=(·.arg)) (as:=as)]
 generalize as.map (·.arg)=ns at*
 refine ⟨_,pure_bind _ _,λr hl=> ?_⟩
 have Sz:=CR hl
 have nz:(ns.zip (vs++(r.getD #[]).toList)).map (·.1)=ns:=List.map_fst_zip (by rw [aL];exact Nat.le_of_eq hl)
 have hle:vs.length<=ns.length:=hl▸gR _ _
 have h2:=Aj hle
 have hD:List.drop ((r.getD #[]).toList.length - ns.length) (r.getD #[]).toList=(r.getD #[]).toList:=by rw [Nat.sub_eq_zero_of_le (hl▸Nat.le_add_left _ _)];rfl
 have hz:ns.length - (List.drop ((r.getD #[]).toList.length - ns.length) (r.getD #[]).toList).length=vs.length:=by rw [hD];exact Nat.sub_eq_of_eq_add hl
 have hX:ns.zip vs++(ns.drop (ns.length - (List.drop ((r.getD #[]).toList.length - ns.length) (r.getD #[]).toList).length)).zip (List.drop ((r.getD #[]).toList.length - ns.length) (r.getD #[]).toList)=ns.zip (vs++(r.getD #[]).toList):=by rw [hz,hD];exact Sz
 refine (if_neg (show ¬(decide (vs.length>ns.length)&&true)=true by rw [aQ (Nat.not_lt.mpr hle)];exact Bool.false_ne_true)).trans ?_
 refine (if_neg (show ¬(!((ns.take (ns.length - (List.drop ((r.getD #[]).toList.length - ns.length) (r.getD #[]).toList).length)).filter λn=>((ns.zip vs).lookup n).isNone).isEmpty)=true by rw [hz];exact h2)).trans ?_
 refine (MW _ _ (show ((ns.zip vs++(ns.drop (ns.length - (List.drop ((r.getD #[]).toList.length - ns.length) (r.getD #[]).toList).length)).zip (List.drop ((r.getD #[]).toList.length - ns.length) (r.getD #[]).toList)).map (·.1)).Nodup by rw [hX,nz];exact nd)).trans ?_
 refine (pure_bind _ _).trans (congrArg pure ?_)
 show (ns++ []).filterMap (λn=>((ns.zip vs++(ns.drop (ns.length - (List.drop ((r.getD #[]).toList.length - ns.length) (r.getD #[]).toList).length)).zip (List.drop ((r.getD #[]).toList.length - ns.length) (r.getD #[]).toList)).lookup n).map (n, ·))=_
 rw [hX,ch]
 have h:=wk (xs:=ns.zip (vs++(r.getD #[]).toList)) (nz.symm▸nd)
 rw [nz] at h
 exact h
theorem Hr (hp:fd.params=⟨[],as,none, [], [],none,ds⟩)(hd:fd.defaults= .none)(hl:as.length=vs.length)(nd:(as.map (·.arg)).Nodup):
  bindArgs fd ⟨vs, []⟩=pure ((as.map (·.arg)).zip vs):=by
 refine aZ (oz (vs:=vs) hp nd) λk h1 h2=> ?_
 rw [h1,hd]
 exact (pure_bind none k).trans ((h2 none hl).trans (by rw [show (Option.getD none #[]:Array Value).toList= [] from rfl,ch]))
theorem IK (hp:fd.params=⟨[],as++ [a],none, [], [],none,ds⟩)(hd:fd.defaults= .ref T)
  (ho:s.heap.get? T=some o) (hs:o.data= .seq #[d] n) (hl:as.length=vs.length) (nd:((as++ [a]).map (·.arg)).Nodup):
  BindsTo s fd ⟨vs, []⟩ (((as++ [a]).map (·.arg)).zip (vs++ [d])):=by
 refine aZ (oz (vs:=vs) hp nd) λk h1 h2=> ?_
 exact .of_defaults hd ho hs h1 (h2 (some #[d]) (by rw [aL,hl];rfl))
end Mine
namespace Mine
open PySem PySem.W PySem.Calls PyProof.Rows PySem.Spec
noncomputable def fE (fd:FuncData):List Str:=
 let ps:=fd.params.args.map (·.arg)
 ps++((fd.scope.names.filter λp=>(p.2== .local||p.2== .cell)&& !ps.contains p.1).map (·.1))
noncomputable def sS (fd:FuncData):CV:=⟨(fE fd).zipIdx,fd.scope⟩
inductive sf (K:Frag):Value->List SV->Prop where
 |no:sf K .none []
 |one {T:Addr} {o:Obj} {j:Int} {t} {n:Nat} (h:K.lookup T=some o) (hd:o.data= .seq #[.int j t] n):sf K (.ref T) [.int j]
structure rg (K:Frag)(S:lu)(X:Nat->Bool)(fd:FuncData)(fi:Fn):Prop where
 gl:fd.globals=mainGlobals
 YU:fd.closure= []
 bi:fd.builtins=builtinsNs
 code:codeIn K fd.code fd.qualname=true
 co:fd.scope.isCoroutine=false
 gen:fd.scope.isGenerator=false
 kind:fd.scope.kind= .function
 par:fd.params=⟨[],fd.params.args,none, [], [],none,fd.params.defaults⟩
 na:fi.fV=fd.params.args.length
 nl:fi.oj=(fE fd).length
 nd:(fE fd).Nodup
 sl:∀x∈fE fd,fd.scope.names.lookup x=some .local∨fd.scope.names.lookup x=some .cell
 pl:∀a∈fd.params.args,fd.scope.names.lookup a.arg=some .local
 cn:((cellsFrom 0 fd.scope.names []).map (·.1)).Nodup
 cs:fi.cells=false->(fd.scope.names.all λp=>p.2 != .cell)=true
 df:sf K fd.defaults fi.dflt
 t:∃b,fd.body= .stmts b/\xr S X (sS fd) b fi.body
theorem Gz (Yp:∀b∈fs,∃o,g.get? b=some o)(F:Fr g L G m)(T:KtsTurn (L::fs) G G'):∃g',KtsTurn fs g g' /\Fr g' L G' m:=by
 have nL:g.get? L=none:=kts_self F
 obtain ⟨T₁,S₁⟩:=kts_turn_at (h:=G') (fs:=fs) (g:=g) Yp
  (λb o e nm=>T.other b o (F.keep b o e) λq=>by
   rcases cH q with z|z
   ·rw [z,nL] at e;exact nh e
   ·exact nm z)
  (λb o e hm=>T.frame b o (F.keep b o e) (.tail _ hm))
 refine HV F.ns λoL es ep hL hd hk hf=> ?_
 obtain ⟨sl,hs⟩:=T.frame L oL hL (.head _)
 exact ⟨_,T₁,⟨⟨_,es,ep,hs,hd,hk,hf⟩,S₁,by rw [T₁.size];exact F.above⟩⟩
theorem Fr.up (F:Fr g L G m)(F' :Fr G L' h m'):Fr g L h m:=by
 refine HV F.ns λoL es ep hL hd hk hf=> ?_
 exact ⟨⟨oL,es,ep,F'.keep _ _ hL,hd,hk,hf⟩,λb o e=>F'.keep b o (F.keep b o e),F.above⟩
theorem News.up (F:Fr g L G m)(N:News G L' h ac):News g L h ac:=λp hp=>by
 have P:=N p hp
 refine ⟨P.1,λq=> ?_, ?_⟩
 ·refine Re F.ns λoL es ep hL u8=> ?_
  have:=P.2.2;rw [q,hL] at this;exact E6 this
 ·cases q:g.get? p.1 with
  |none=>rfl
  |some o=>have:=P.2.2;rw [F.keep _ _ q] at this;exact E6 this
theorem Dn {kindOf:Str->Option NameKind}(h:∀p∈bs,p.1≠x):bindL kindOf bs m x=m x:=by
 induction bs generalizing m with
 |nil=>rfl
 |cons p r ih=>
  obtain ⟨n,v⟩:=p
  unfold bindL
  rw [ih λp hp=>h p (.tail _ hp)]
  split
  ·exact if_neg λe=>h (n,v) (.head _) e.symm
  ·rfl
theorem xR {kindOf:Str->Option NameKind}(nd:(bs.map (·.1)).Nodup)(hm:(x,v)∈bs)(hk:kindOf x=some .local):bindL kindOf bs m x=some v:=by
 induction bs generalizing m with
 |nil=>exact j1 hm
 |cons p r ih=>
  obtain ⟨n,u⟩:=p
  have nd:=List.nodup_cons.mp nd
  unfold bindL
  rcases cH hm with e|hm
  ·cases e
   rw [Dn λp hp e=>nd.1 (by rw [<-e];exact ip (f:=(·.1)) hp),if_pos hk,if_pos rfl]
  ·exact ih nd.2 hm
theorem Cz (h:CellsAre cm cs cells)(x:Str)(a:Addr)(hm:(x,a)∈cs):∃o,(a,o)∈cells/\o.data= .cell (cm x):=by
 induction h with
 |nil=>exact j1 hm
 |cons hd t ih=>
  rcases cH hm with e|hm
  ·cases e;exact ⟨_, .head _,hd⟩
  ·refine aZ (ih hm) λo a1 a2=> ?_
   exact ⟨o, .tail _ a1,a2⟩
theorem sz (h:CellsAre cm cs cells):cells.map (·.1)=cs.map (·.2):=by
 induction h with
 |nil=>rfl
 |cons hd t ih=>rw [dZ,dZ,ih]
theorem fF.KT {S:lu}(h:fF prog w S ac ah H):∀(l:ao),fF prog w S (l++ac) ah H
 | []=>h
 |p::l=>(fF.KT h l).more p
end Mine
set_option maxHeartbeats 4000000
namespace Mine
open PySem PySem.W PySem.Calls PyProof.Rows PySem.Spec
section
variable {prog:Program}{w:World}{A:Around}{s:Shared}{R:Result->Shared->Prop}
theorem zn (h:aG (model prog w) (A.deeper env) (execs body env) (λf s' =>R (.ok (.ret (match f with| .ret v=>v|_=> .none))) s')
   (λe s' =>aG (model prog w) (A.deeper env) (leaving env e) (λu8 nU=>R (.error e) nU) (λe' nU=>R (.error e') nU) s') s):fh (model prog w) A (.func body env) R s:=by
 refine d5 ?_
 show aG _ (A.deeper env) (do point;match<-(execs body env).onRaise (leaving env) with| .ret v=>ret v|_=>ret .none) _ _ s
 refine ag (uZ (ag (gn (gA h (λf s' h' => ?_) λu8 u8 h' =>h'))))
 cases f<;>exact aq h'
theorem m0 (Qf:A.depth<recursionLimit)(ho:s.heap.get? a=some o)(BP:o.data= .func fd)(V4:fd.scope.isCoroutine=false)(TG:fd.scope.isGenerator=false)
  (A8:fd.body= .stmts body) (Vn:s.heap.CodeRec fd.code fd.qualname)
  (h:aG (model prog w) A.in1 (bindArgs fd args) (λbinds s₁=>aG (model prog w) A.in1 (newFunctionEnv fd.scope fd.globals fd.closure binds (fd.qualname++ ".<locals>.") (some a) fd.code none fd.builtins)
    (λenv s₂=>s₂.heap.NoLimit/\fh (model prog w) A (.func body env) R s₂) (λe s' =>R (.error e) s') s₁) (λe s' =>R (.error e) s') s):fh (model prog w) A (.call (.ref a) args) R s:=by
 refine d5 ?_
 show aG _ A.in1 (callAny (.ref a) args) _ _ s
 unfold callAny
 refine ag (ap (wpAny_load ho ?_))
 refine St Vn λc oc vs tq hc Tn OE hq=> ?_;clear Vn
 rw [BP]
 show aG _ _ (callFunction a fd args) _ _ _
 unfold callFunction
 rw [hc] at h
 rw [hc,TG,V4,A8]
 refine ag (m:=field (.ref c) 1) (ap (wpAny_field Tn OE hq (ag (aq ?_))))
 exact ag (aA h λbinds s₁ h₁=>ag (aA h₁ λenv s₂ h₂=>ag (ap (wpAny_enterFrame h₂.1 Qf (aq ⟨rfl,rfl,h₂.2⟩)))))
end
noncomputable def Lo (K:Frag)(S:lu)(P:PI)(X:Nat->Bool):Prop:=(∀f fi,P.fns[f]? =some fi->∃oc od fd yk,K.lookup (S.oG f)=some ⟨oc,od, .func fd,yk⟩/\rg K S X fd fi)/\∀j,X j=true->i4 K (S.dF j)=true
theorem eY:∀{xs:List Str} {k:Nat} {x:Str} {i:Nat},(xs.zipIdx k).lookup x=some i->∃j,i=k+j/\xs[j]? =some x
 | [],_,_,_,h=>by cases h
 |y::ys,k,x,i,h=>by
  rw [List.zipIdx_cons,List.lookup_cons] at h
  by_cases e:x=y
  ·subst e
   simp at h
   exact ⟨0,by lia,rfl⟩
  ·rw [eX e] at h
   refine aZ (eY h) λj a b=> ?_
   exact ⟨j+1,by lia,by simpa using b⟩
theorem aH.at' :∀{vs:List SV} {rs:List Value} {i:Nat} {v:SV},aH n l vs rs->(vs.map some)[i]? =some (some v)->∃r,rs[i]? =some r/\av n l v r:=λh e=>by
 rw [iW] at e
 refine aZ (Option.map_eq_some_iff.mp e) λu e1 e2=> ?_
 cases e2
 exact h.at e1
theorem mE:∀{names:List (Str×NameKind)} {d9:List (Str×Addr)},(names.all λp=>p.2 != .cell)=true->cellsFrom n names d9=d9
 | [],d9,_=>rfl
 |(x,k)::r,d9,h=>by
  rw [List.all_cons] at h
  simp only [Bool.and_eq_true,bne_iff_ne,ne_eq] at h
  have e:(k==NameKind.cell)=false:=eX h.1
  show (if (k==NameKind.cell)=true then cellsFrom (n+1) r ((x,n)::d9) else cellsFrom n r d9)=d9
  rw [e]
  exact mE (by simpa using h.2)
noncomputable def Cx.into (c:Cx)(out:List Env)(A:Around)(h:Heap)(ac:ao)(f:Nat)(fd:FuncData):Cx:={c with g₀:=hideAll h (ac.map (·.1)),outer:=out,A₀:=A,cn:=fd.qualname,cs:=fd.scope,L:=h.objs.size,a:=c.S.oG f,cd:=fd.code,cl:=cellsFrom (h.objs.size+1) fd.scope.names []}
noncomputable def RH:Flow->Value
 | .ret v=>v
 |_=> .none
section
variable {c:Cx}{out:List Env}{A:Around}{h:Heap}{h₁:Heap}{ac cells:ao}{ah:dN}{f n:Nat}{fd:FuncData}{fi:Fn}{X:Nat->Bool}{as:List SV}{rs dv:List Value}{s:Shared}{H:HP}
theorem Fl (k:rg c.K c.S X fd fi):sy (c.into out A h ac f fd) (sS fd):=by
 refine ⟨rfl,λy z i hy hz=> ?_,λy i hy=> ?_,λhz=>mE hz⟩
 ·refine aZ (eY hy) λj e1 e2=> ?_
  refine aZ (eY hz) λj' e3 e4=> ?_
  obtain rfl:j=j' :=Nat.add_left_cancel (e1.symm.trans e3)
  exact cq (e2.symm.trans e4)
 ·refine aZ (eY hy) λj e1 e2=> ?_
  exact (k.sl y (List.mem_of_getElem? e2)).imp id λz=>⟨z,Option.isSome_iff_exists.mp (cellsFrom_some fd.scope.names (h.objs.size+1) [] (.inl z))⟩
theorem FM (hf:A.frames=some out)(hh:A.handled=none)(hg:A.guards=some [])(d:A.depth+10*(n+1)<=400)(u:A.units+100*(n+1)<=4000):lN (c.into out A h ac f fd) n (4+1) (A.deeper (c.into out A h ac f fd).env):=
 ⟨(congrArg (Option.map (List.cons (c.into out A h ac f fd).env)) hf),hh,hg,Nat.le_add_left _ _,Nat.le_add_left _ _,(by
  show A.depth+1+10*n+(4+1)<=400
  lia),(by
  show A.units+3+100*n+(4+1)<=4000
  lia)⟩
theorem Cb (x:∀n a,(n,a)∈cellsFrom (h.objs.size+1) fd.scope.names []->h.objs.size<a):∀a,a<h.objs.size->a∉(c.into out A h ac f fd).X:=λa ha hm=>by
 refine aZ (gH hm) λp hp e=> ?_
 exact absurd (x p.1 p.2 hp) (Nat.not_lt.mpr (Nat.le_of_lt (e▸ha)))
theorem Ea (k:rg c.K c.S X fd fi){kindOf:Str->Option NameKind}(hk:∀x,fd.scope.names.lookup x=some .local->kindOf x=some .local)(hv:aH ac ah as rs)(hl:rs.length=fd.params.args.length)(nd:(((fd.params.args.map (·.arg)).zip rs).map (·.1)).Nodup)(x0:bq [] ac ah (cells++ac) ah):
  bC (c.into out A h ac f fd) (sS fd) (as.map some++List.replicate (fi.oj - fi.fV) none) (bindL kindOf ((fd.params.args.map (·.arg)).zip rs) λu8=>none) (cells++ac) ah:=by
 have key:∀y i val,(sS fd).ot.lookup y=some i->(as.map some++List.replicate (fi.oj - fi.fV) none)[i]? =some (some val)->fd.scope.names.lookup y=some .local/\∃rv,(y,rv)∈(fd.params.args.map (·.arg)).zip rs/\av ac ah val rv:=λy i val h1 h2=>by
  refine aZ (eY h1) λj e1 e2=> ?_
  obtain rfl:i=j:=e1.trans (Nat.zero_add j)
  by_cases hj:i<(as.map some).length
  ·rw [iT hj] at h2
   refine aZ (aH.at' hv h2) λrv r1 r2=> ?_
   have Rb:i<(fd.params.args.map (·.arg)).length:=by
    rw [bI] at hj⊢
    rw [<-hl,<-hv.length];exact hj
   unfold fE at e2
   simp only at e2
   rw [iT Rb] at e2
   have hm:(y,rv)∈(fd.params.args.map (·.arg)).zip rs:=List.mem_of_getElem? (i:=i) (List.getElem?_zip_eq_some.mpr ⟨e2,r1⟩)
   refine aZ (gH (List.of_mem_zip hm).1) λa ha e=> ?_
   exact ⟨e▸k.pl a ha,rv,hm,r2⟩
  ·rw [eJ (Nat.le_of_not_lt hj),List.getElem?_replicate] at h2
   split at h2<;>cases h2
 refine ⟨λy i val h1 h2 h3=> ?_,λy i val h1 h2 h3=> ?_⟩
 ·obtain ⟨k1,rv,k2,k3⟩:=key y i val h1 h2
  exact ⟨rv,xR nd k2 (hk y k1),k3.ext x0⟩
 ·cases (key y i val h1 h2).1.symm.trans h3
theorem z4 {K:Frag}(h:sf K v ds){C:Prop}(a:v= .none->ds= []->C)(b:∀T o j t n,v= .ref T->ds= [.int j]->K.lookup T=some o->o.data= .seq #[.int j t] n->C):C:=by
 cases h with
 |no=>exact a rfl rfl
 |one h hd=>exact b _ _ _ _ _ rfl rfl h hd
theorem yV (k:rg c.K c.S X fd fi)(XK:c.K.In s.heap)(hv:aH ac ah as rs)(vp:as.length+fi.dflt.length=fi.fV){C:Prop}
  (G:∀dv,aH ac ah (as++fi.dflt) (rs++dv)->BindsTo s fd ⟨rs, []⟩ ((fd.params.args.map (·.arg)).zip (rs++dv))->C):C:=by
 have YM:(fd.params.args.map (·.arg)).Nodup:=(List.nodup_append.mp k.nd).1
 have Rc:=hv.length▸vp.trans k.na
 refine aZ (oz (vs:=rs) k.par YM) λb1 h1 h2=> ?_
 refine z4 k.df (λe ed=> ?_) λT o j t n e ed ho hs=> ?_
 ·rw [ed] at Rc G
  exact G [] (hv.append .nil) (.of_eq (h1.trans ((congrArg (λv=>seqItems? v>>=b1) e).trans ((pure_bind none b1).trans (h2 none Rc.symm)))))
 ·rw [ed] at Rc G
  exact G [.int j t] (hv.append (.cons (.int j t) .nil)) (.of_defaults e (XK _ _ ho) hs h1 (h2 (some #[.int j t]) Rc.symm))
theorem DL (nd:(ac.map (·.1)).Nodup)(addr:∀p∈ac,s.heap.get? p.1=some p.2)(hr:fF c.prog c.w c.S ac ah H)(sh:s.gens=c.gens/\s.drawn=c.drawn/\s.os=c.os)
  (ns:h₁.Ns s.heap.objs.size m) (hk:∀b o,s.heap.get? b=some o->h₁.get? b=some o) (NC:∀p∈cells,h₁.get? p.1=some p.2/\p.1≠s.heap.objs.size/\s.heap.get? p.1=none) (Y:CellsAre cm (cellsFrom (s.heap.objs.size+1) fd.scope.names []) cells) (Rf:(c.into out A s.heap ac f fd).X.Nodup) (ou:∀a,a<s.heap.objs.size->a∉(c.into out A s.heap ac f fd).X):
  aV (c.into out A s.heap ac f fd) m (cells++ac) ah H {s with heap:=h₁,toks:=tk}:=by
 refine ⟨⟨_,KtsTurn.refl,⟨ns,λb o e=>hk b o (of_hideAll _ e), ?_⟩,λp hp=> ?_⟩, ?_,hr.KT _,λy a e=> ?_,sh⟩
 ·show (hideAll s.heap (ac.map (·.1))).objs.size<=s.heap.objs.size
  rw [hideAll_size];exact bS _
 ·rcases gf hp with hp|hp
  ·refine rB (NC p hp) λa1 a2 a3=> ?_
   refine ⟨a1,a2,(?_:(hideAll s.heap (ac.map (·.1))).get? p.1=none)⟩
   cases q:(hideAll s.heap (ac.map (·.1))).get? p.1 with
   |none=>rfl
   |some o=>rw [of_hideAll _ q] at a3;exact E6 a3
  ·have z:=addr p hp
   exact ⟨hk _ _ z,cV (Heap.lt_size z),hideAll_none _ (ip (f:=(·.1)) hp)⟩
 ·rw [eG,sz Y]
  exact List.nodup_append.mpr ⟨Rf,nd,λa ha b hb e=>by
   refine aZ (gH hb) λp hp q=> ?_
   exact ou a (e.trans q.symm▸Heap.lt_size (addr p hp)) ha⟩
 ·refine aZ (Cz Y y a (eM e)) λo a1 a2=> ?_
  exact ⟨o,_,List.mem_append_left _ a1,a2⟩
theorem B9:bq [] ac ah (cells++ac) ah:=⟨⟨[],(ch _).symm⟩,λu8 h u8=>List.mem_append_right _ h,λu8 h u8 u8=>List.mem_append_right _ h⟩
theorem EN {oc:Value}{od:Option Addr}{yk:Array (Option Value)}(mW:wX c.K c.P c.S)(BG:Below A c.base out (hideAll s.heap (ac.map (·.1))))(Ii:c.K.In c.base)(top:Top c.pv c.loose c.I1 c.mg c.mb c.base)(OE:KtsDicts (out.filterMap (·.frame)) (hideAll s.heap (ac.map (·.1))))
  (XK:c.K.In s.heap) (Eb:s.heap.NoLimit)
  (hK:c.K.lookup (c.S.oG f)=some ⟨oc,od, .func fd,yk⟩) (k:rg c.K c.S X fd fi) (hh:A.handled=none) (K9:A.depth+10*(n+1)<=400)
  (nd:(ac.map (·.1)).Nodup) (addr:∀p∈ac,s.heap.get? p.1=some p.2) (hr:fF c.prog c.w c.S ac ah H) (sh:s.gens=c.gens/\s.drawn=c.drawn/\s.os=c.os) (zd:(rs++dv).length=fd.params.args.length) (xI:BindsTo s fd ⟨rs, []⟩ ((fd.params.args.map (·.arg)).zip (rs++dv))) {R:Result->Shared->Prop}
  (go:∀(cells:ao) (kindOf:Str->Option NameKind) body m s',cells.map (·.1)=(c.into out A s.heap ac f fd).X->(∀a,a<s.heap.objs.size->a∉(c.into out A s.heap ac f fd).X)->(c.into out A s.heap ac f fd).Ok 0->fd.body= .stmts body->xr c.S X (sS fd) body fi.body->
   m=bindL kindOf ((fd.params.args.map (·.arg)).zip (rs++dv)) (λu8=>none)->(∀x,fd.scope.names.lookup x=some .local->kindOf x=some .local)->(((fd.params.args.map (·.arg)).zip (rs++dv)).map (·.1)).Nodup->aV (c.into out A s.heap ac f fd) m (cells++ac) ah H s'->(∀b o,s.heap.get? b=some o->s'.heap.get? b=some o)->
   aG (model c.prog c.w) (A.deeper (c.into out A s.heap ac f fd).env) (execs body (c.into out A s.heap ac f fd).env) (λfl s' =>R (.ok (.ret (RH fl))) s') (λev s' =>aG (model c.prog c.w) (A.deeper (c.into out A s.heap ac f fd).env) (leaving (c.into out A s.heap ac f fd).env ev) (λu8 nU=>R (.error ev) nU) (λe nU=>R (.error e) nU) s') s'):
  fh (model c.prog c.w) A (.call (.ref (c.S.oG f)) ⟨rs, []⟩) R s:=by
 refine aZ k.t λbody A8 YC=> ?_
 have Xa:∀p∈(fd.params.args.map (·.arg)).zip (rs++dv),fd.scope.names.lookup p.1=some .local:=λp hp=>by
  refine aZ (gH (List.of_mem_zip (show (p.1,p.2)∈_ from hp)).1) λa ha e=> ?_
  exact e▸k.pl a ha
 have QV:(((fd.params.args.map (·.arg)).zip (rs++dv)).map (·.1)).Nodup:=by
  rw [List.map_fst_zip (by rw [bI,zd];exact bS _)]
  exact (List.nodup_append.mp k.nd).1
 refine m0 (show A.depth<1000 by lia) (XK _ _ hK) rfl k.co k.gen A8 (codeRec_of XK k.code) (ap (xI _ _ _ _ (ap ?_)))
 rw [k.gl,k.YU,k.bi]
 refine wpAny_newFunctionEnv_cells k.kind (λx hx=> .inl (Xa x hx)) λZd he s' x=> ?_
 subst he
 refine uy x.done λh₁ tk dc x9=> ?_;subst dc
 refine ⟨Eb.keeps x9,zn ?_⟩
 have UB:((cellsFrom (s.heap.objs.size+1) fd.scope.names []).map (·.1)).Nodup:=cellsFrom_names fd.scope.names 0 (s.heap.objs.size+1) [] [] rfl▸k.cn
 refine aZ (Cl.news (h₀:=s.heap) (bS _) λnm a hm=>⟨x.cell nm a (lookup_of_mem_nodup UB hm),x.above nm a hm⟩) λcells NC Y=> ?_
 have Ca:(c.into out A s.heap ac f fd).Ok 0:=⟨mW,BG,Ii,top,k.kind,hh,List.pairwise_map.mpr x.apart,UB,OE⟩
 have ou:=Cb (c:=c) (out:=out) (A:=A) (ac:=ac) (f:=f) x.above
 refine gA (go cells _ body _ _ (sz Y) ou Ca A8 YC rfl (λu8 h=>h) QV (DL (A:=A) (out:=out) (f:=f) (tk:=tk) nd addr hr sh x.toInCall.ns x9 NC Y Ca.Rf ou) x9) (λfl s' q=> ?_) λu8 u8 q=>q
 cases fl<;>exact q
theorem enter (mW:wX c.K c.P c.S)(BG:Below A c.base out (hideAll s.heap (ac.map (·.1))))(Ii:c.K.In c.base)(top:Top c.pv c.loose c.I1 c.mg c.mb c.base)(OE:KtsDicts (out.filterMap (·.frame)) (hideAll s.heap (ac.map (·.1))))
  (IH:(c.into out A s.heap ac f fd).Ok 0->d8 (c.into out A s.heap ac f fd) n (run c.P n)) (exc:∀j,X j=true->i4 c.K (c.S.dF j)=true) (XK:c.K.In s.heap) (Eb:s.heap.NoLimit)
  (hK:c.K.lookup (c.S.oG f)=some ⟨oc,od, .func fd,yk⟩) (k:rg c.K c.S X fd fi) (hf:A.frames=some out) (hh:A.handled=none) (hg:A.guards=some []) (K9:A.depth+10*(n+1)<=400) (YR:A.units+100*(n+1)<=4000)
  (nd:(ac.map (·.1)).Nodup) (addr:∀p∈ac,s.heap.get? p.1=some p.2) (hr:fF c.prog c.w c.S ac ah H) (sh:s.gens=c.gens/\s.drawn=c.drawn/\s.os=c.os) (hv:aH ac ah as rs) (vp:as.length+fi.dflt.length=fi.fV)
  (go:∀cells:ao,cells.map (·.1)=(c.into out A s.heap ac f fd).X->(∀a,a<s.heap.objs.size->a∉(c.into out A s.heap ac f fd).X)->(c.into out A s.heap ac f fd).Ok 0->bv (c.into out A s.heap ac f fd) (sS fd) (cells++ac) ah (aK c.P (run c.P n) fi.body ((as++fi.dflt).map some++List.replicate (fi.oj - fi.fV) none) H)
   (λfl s' =>Q (RH fl) s') (λev s' =>aG (model c.prog c.w) (A.deeper (c.into out A s.heap ac f fd).env) (leaving (c.into out A s.heap ac f fd).env ev) (λu8 nU=>E ev nU) E s')):
  fh (model c.prog c.w) A (.call (.ref (c.S.oG f)) ⟨rs, []⟩) (Oa Q E) s:=by
 refine yV k XK hv vp λdv Rh xI=> ?_
 have zd:(rs++dv).length=fd.params.args.length:=by rw [<-Rh.length,aL,vp,k.na]
 refine EN mW BG Ii top OE XK Eb hK k hh K9 nd addr hr sh zd xI λcells kindOf body m s' hX ou Ca hb hc hm hk QV je x9=> ?_
 subst hm
 exact A4 ⟨Ca,IH Ca,Fl k,rfl,FM hf hh hg K9 YR,exc⟩ fi.body body hc je (Ea k hk Rh zd QV B9) (go cells hX ou Ca)
end
noncomputable def Iy (fi:Fn):cQ->du SV
 | .next _ H=> .ok .none H
 | .ret v H=> .ok v H
 | .exc c _ H=>if fi.cells then .bad else .exc c H
 | .jp c H=>if fi.cells then .bad else .exc c H
 |_=> .bad
theorem B4 {P:PI}{n f:Nat}{as:List SV}{H:HP}{C:du SV->Prop}(bad:C .bad)(k:∀fi,P.fns[f]? =some fi->as.length+fi.dflt.length=fi.fV->C (Iy fi (aK P (run P n) fi.body ((as++fi.dflt).map some++List.replicate (fi.oj - fi.fV) none) H))):C (run P (n+1) f as H):=by
 show C (match P.fns[f]? with
   |some fi=>(match uA fi as with
    |some as=>Iy fi (aK P (run P n) fi.body (as.map some++List.replicate (fi.oj - fi.fV) none) H)
    |none=> .bad)
   |none=> .bad)
 cases e:P.fns[f]? with
 |none=>exact bad
 |some fi=>
  show C (match uA fi as with|some as=>Iy fi (aK P (run P n) fi.body (as.map some++List.replicate (fi.oj - fi.fV) none) H)|none=> .bad)
  unfold uA
  by_cases q:as.length+fi.dflt.length=fi.fV
  ·rw [if_pos q];exact k fi e q
  ·rw [if_neg q];exact bad
section
variable {c:Cx}{A:Around}{ac cells n2:ao}{ah l2:dN}{f n:Nat}{fd:FuncData}{fi:Fn}{m m' :Str->Option Value}{s s2:Shared}{H H2:HP}{g g' :Heap}
theorem zl (ok:c.Ok 0)(T:KtsTurn c.fs c.g₀ g)(F:Fr g c.L (hideAll s.heap (ac.map (·.1))) m):KtsDicts ((c.env::c.outer).filterMap (·.frame)) (hideAll s.heap (ac.map (·.1))):=λb hb=>by
 rcases tE hb with e|e
 ·subst e
  refine XG F.ns λoL es ep hL hd u8=> ?_
  exact ⟨oL,es,ep,hL,hd⟩
 ·refine Re ((ok.KQ.turn T) b e) λo es nn h1 h2=> ?_
  exact ⟨o,es,nn,F.keep b o h1,h2⟩
structure C3 (c:Cx)(A:Around)(s:Shared)(ac:ao)(ah:dN)(f:Nat)(fd:FuncData)(m:Str->Option Value)(n2:ao)(l2:dN):Prop where
 cells:∀x a,c.cl.lookup x=some a->∃o v₀,(a,o)∈n2/\o.data= .cell v₀
 ext:bq [] ac ah n2 l2
 lift:∀g',KtsTurn (c.into (c.env::c.outer) A s.heap ac f fd).fs (c.into (c.env::c.outer) A s.heap ac f fd).g₀ g'->∃KL,KtsTurn c.fs c.g₀ KL/\Fr KL c.L g' m
theorem GP (ok:c.Ok 0)(hn:aV c m ac ah H s)(T:KtsTurn c.fs c.g₀ g)(F:Fr g c.L (hideAll s.heap (ac.map (·.1))) m)(hX:cells.map (·.1)=(c.into (c.env::c.outer) A s.heap ac f fd).X)(ou:∀a,a<s.heap.objs.size->a∉(c.into (c.env::c.outer) A s.heap ac f fd).X)
  (x:bq (c.into (c.env::c.outer) A s.heap ac f fd).X (cells++ac) ah n2 l2):C3 c A s ac ah f fd m n2 l2:=by
 refine ⟨λy a e=> ?_,⟨x.ah,λp hp q=>x.tp p (List.mem_append_right _ hp) q,λp hp q u8=>x.cell p (List.mem_append_right _ hp) q (ou _ (hn.lt p hp))⟩,λg' T' => ?_⟩
 ·refine uy (hn.cells y a e) λo v₀ a1 a2=> ?_
  exact ⟨o,v₀,x.cell _ (List.mem_append_right _ a1) (ku a2) (ou _ (hn.lt _ a1)),a2⟩
 ·obtain ⟨KL,T2,F2⟩:=Gz (λb hb=>by
   refine Re ((ok.KQ.turn T) b hb) λo u8 u8 h1 u8=> ?_
   exact ⟨o,h1⟩) F T'
  exact ⟨KL,T.trans T2,F2⟩
theorem C3.now (b:C3 c A s ac ah f fd m n2 l2)(hn:aV (c.into (c.env::c.outer) A s.heap ac f fd) m' n2 l2 H2 s2):aV c m n2 l2 H2 s2:=by
 refine hn.gE λg' T' F' N' => ?_
 refine aZ (b.lift g' T') λKL T2 F2=> ?_
 exact ⟨⟨KL,T2,Mine.Fr.up F2 F',Mine.News.up F2 N'⟩,hn.nd,hn.hr,b.cells,hn.sh⟩
theorem C3.leave (b:C3 c A s ac ah f fd m n2 l2){ev:Value}(hx:Lg (c.into (c.env::c.outer) A s.heap ac f fd) n2 l2 H2)(hl:f7 (c.into (c.env::c.outer) A s.heap ac f fd) k n2 ev s2)
  (he:∀az bM s' ev,CS c az bM H2 s'->bq [] ac ah az bM->kg c m k az ev s'->E ev s'):
  aG (model c.prog c.w) (A.deeper (c.into (c.env::c.outer) A s.heap ac f fd).env) (leaving (c.into (c.env::c.outer) A s.heap ac f fd).env ev) (λu8 nU=>E ev nU) E s2:=by
 refine ap (wpAny_mono hl (λu8 s3 Xu=> ?_) λu8 u8 z=>z.elim)
 obtain ⟨e,t,vs,g',e1,T',R',U',YJ,LX⟩:=Xu
 refine aZ (b.lift g' T') λKL T2 F2=> ?_
 exact he n2 l2 s3 ev ⟨hx.nd,hx.hr,b.cells,YJ⟩ b.ext ⟨e,t,vs,g',e1,R',U',⟨KL,T2,F2⟩,LX⟩
theorem EO {X:Nat->Bool}(k:rg c.K c.S X fd fi)(Ca:(c.into (c.env::c.outer) A s.heap ac f fd).Ok 0)(bk:∀{n2 l2},bq (c.into (c.env::c.outer) A s.heap ac f fd).X (cells++ac) ah n2 l2->C3 c A s ac ah f fd m n2 l2)(h:bw av c m ac ah (Iy fi o) Q E):
  bv (c.into (c.env::c.outer) A s.heap ac f fd) v (cells++ac) ah o (λfl s' =>Q (RH fl) s') (λev s' =>aG (model c.prog c.w) (A.deeper (c.into (c.env::c.outer) A s.heap ac f fd).env) (leaving (c.into (c.env::c.outer) A s.heap ac f fd).env ev) (λu8 nU=>E ev nU) E s'):=by
 cases o with
 |next l H2=>exact λm' n2 l2 s2 fK x2 L2=>h _ _ _ _ ((bk x2).now fK) (bk x2).ext .none
 |ret u H2=>exact λm' n2 l2 s2 ru fK x2 v2=>h _ _ _ _ ((bk x2).now fK) (bk x2).ext v2
 |exc kk l H2=>
  replace h:bw av c m ac ah (if fi.cells=true then .bad else .exc kk H2) Q E:=h
  by_cases hc:fi.cells=true
  ·rw [if_pos hc] at h;exact h.elim
  ·rw [if_neg hc] at h
   exact λm' n2 l2 s2 ev hx x2 L2 hr=>(bk x2).leave ⟨hx.nd,hx.hr⟩ (E9 Ca (mE (k.cs (Bool.eq_false_iff.mpr hc))) hx hr) h
 |jp kk H2=>
  replace h:bw av c m ac ah (if fi.cells=true then .bad else .exc kk H2) Q E:=h
  by_cases hc:fi.cells=true
  ·rw [if_pos hc] at h;exact h.elim
  ·rw [if_neg hc] at h
   exact λn2 l2 s2 ev hx x2 hr=>(bk x2).leave hx hr h
 |cont l H2=>exact h.elim
 |bad=>exact h.elim
end
theorem GT {X:Nat->Bool}(n:Nat):∀(c:Cx),Lo c.K c.S c.P X->c.Ok 0->d8 c n (run c.P n):=by
 induction n with
 |zero=>exact λc hP ok A hA f as H m ac ah s rs Q E hn hv h=>h.elim
 |succ n ih=>
  intro c hP ok A hA f as H m ac ah s rs Q E hn hv
  refine B4 (C:=λo=>bw av c m ac ah o Q E->_) (λh=>h.elim) λfi Sm vp h=> ?_
  refine Y1 (hP.1 f fi Sm) λoc od fd yk hK k=> ?_
  refine hn.gE λg T F N=> ?_
  refine SD (groundX (R:=λu8 u8=>True) (env:=c.env) (ok.sH T) F N hA.frames rfl ok.Mv) λFG BG st u8=> ?_
  exact enter ok.mW BG ok.Ii ok.top (zl ok T FG) (ih _ hP) hP.2 ((ok.pR T).keeps F.keep) ((ok.top.keeps (ok.stays T)).nolimit.keeps F.keep) hK k hA.frames hA.hand hA.guards hA.depth hA.units hn.nd (λp hp=>hn.addr hp) hn.hr hn.sh hv vp λcells hX ou Ca=>
   EO k Ca (GP ok hn T FG hX ou) h
section
variable {c:Cx}{d n kk:Nat}{m:Str->Option Value}{ac:ao}{ah:dN}{H:HP}{s:Shared}{v:CV}{l:cR}{A:Around}{E:Value->Shared->Prop}{R:au}
inductive wT (S:lu)(v:CV)(i w:Nat)(k:EK)(t:Option (SE×SE))(lo hi:SE):Stmt->Prop where
 |mk (y py elt tg ts z p1 l h p2 p ifs sc lp sp) (h1:v.ot.lookup y=some i) (h2:v.sc.names.lookup y=some .local) (h3:(py.line==lp.line)=true) (h4:(sc.names.any λp=>p.1==y&&(p.2== .local||p.2== .cell))=false) (z1:gh v z 0=true) (z2:HR S v l lo) (z3:HR S v h hi) (h6:sI v sc ts=true) (h7:Co v sc ts k elt) (h8:rD v sc ts t ifs) (h9:Tg w tg ts):
  wT S v i w k t lo hi (.Assign [.Name y py] (.ListComp elt [⟨tg, .Subscript (.Name z p1) (.Slice l h none p2) p,ifs,0⟩] sc lp) sp)
inductive rU (S:lu)(X:Nat->Bool)(v:CV)(i w:Nat)(k:EK)(t:Option (SE×SE))(aI:cA):List Stmt->Prop where
 |mk (y ys) (h1:wT S v i w k t .none (.int 7) y) (h2:xr S X v ys aI):rU S X v i w k t aI (y::ys)
theorem GY (ok:c.Ok d)(RS:d8 c n R)(hA:lN c n (kk+1) A)(he:gQ c v c.env l m ac ah)(h:HR c.S v a e)(hn:aV c m ac ah H s)(hq:bw av c m ac ah (bj c.P R e l H) Q E):aG (model c.prog c.w) A (valueOrNone (evalOpt a c.env)) Q E s:=by
 exact h.s ok RS rfl hA he hn hq
theorem Qq (vs:List SV):lI vs .none (.int 7)=some (vs.take 7):=by
 show (if (0:Int)<=7 then some (vs.take 7) else none)=_
 rfl
theorem Cm (ok:c.Ok d)(RS:d8 c n R)(V:sy c v)(hA:lN c n (kk+1) A){k:EK}(hc:wT c.S v i w k t .none (.int 7) x)(hn:aV c m ac ah H s)(hL:bC c v l m ac ah)
  (hb:∀y,v.ot.lookup y=some 0->c.cs.names.lookup y=some .local/\m y=some (.ref b)) (hl:∀{n' l' H' s'},aV c m n' l' H' s'->s'.heap.IsList b aC.toArray) (hv:aH ac ah vs aC) (hle:vs.length<=big) (hu:gu w k t (.ref H.length) l (H++ [.list (vs.take 7)])=some us)
  (q:∀n1 l1,bq [] ac ah n1 l1->bv c v n1 l1 (.next (al l i (.ref (H++ [SO.list (vs.take 7)]).length)) ((H++ [.list (vs.take 7)])++ [.list us])) Q E):aG (model c.prog c.w) A (exec x c.env) Q E s:=by
 cases hc with
 |mk y py elt tg ts z p1 lo hi p2 p ifs sc lp sp h1 h2 h3 h4 z1 z2 z3 h6 h7 h8 h9=>
 refine uN ok V hA h1 h2 h3 h4 h6 h7 h8 h9 rfl (l:=l) (m:=m) λQ' K=> ?_
 unfold gh at z1
 simp only [Bool.and_eq_true,beq_iff_eq,bne_iff_ne,ne_eq] at z1
 obtain ⟨hk,hm⟩:=hb z z1.1.1
 refine hn.gE λg T F N=> ?_
 refine Mg (ap (nameX_L F hm ?_ ok.kind hk (eX z1.1.2)))
 have he:=eu ok V hL
 refine Fh (GY ok RS hA he z2 hn λn1 l1 s1 r1 cN x1 v1=> ?_)
 refine GY ok RS hA (he.ext x1) z3 cN λn2 l2 s2 r2 fK x2 v2=> ?_
 exact ap (u3 fK (hl fK) (hv.ext (x1.trans x2)) hle (v1.ext x2) v2 (Qq vs) λn3 l3 s3 rx rK x3 v3=>K _ _ _ _ _ _ _ rK (hL.ext ((x1.trans x2).trans x3)) v3 hu (q n3 l3 ((x1.trans x2).trans x3)))
theorem DU {X:Nat->Bool}(O:BZ c d n kk R v X A){k:EK}(hc:rU c.S X v i w k t aI body)(hn:aV c m ac ah H s)(hL:bC c v l m ac ah)
  (hb:∀y,v.ot.lookup y=some 0->c.cs.names.lookup y=some .local/\m y=some (.ref b)) (hl:∀{n' l' H' s'},aV c m n' l' H' s'->s'.heap.IsList b aC.toArray) (hv:aH ac ah vs aC) (hle:vs.length<=big) (hu:gu w k t (.ref H.length) l (H++ [.list (vs.take 7)])=some us)
  (ho:aK c.P R aI (al l i (.ref (H++ [SO.list (vs.take 7)]).length)) ((H++ [.list (vs.take 7)])++ [.list us])=o) (h:∀n1 l1,bv c v n1 l1 o Q E):aG (model c.prog c.w) A (execs body c.env) Q E s:=by
 cases hc with
 |mk y ys c1 c2=>
 exact KN (Cm O.ok O.RS O.V O.A c1 hn hL hb hl hv hle hu λn1 l1 x=>λm1 n2 y1 s1 cN X1 kO=>A4 O aI ys c2 cN kO (bv.base X1 (by subst ho;exact h n1 l1)))
noncomputable def wM (P:Params)(h:Heap)(v:Value):WData->Prop
 | .int i=>∃t,v= .int i t
 | .list xs=>∃b aC,v= .ref b/\h.get? b=some {cls:= .type "list",data:= .seq aC.toArray}/\WellAll P h aC xs
 |_=>True
theorem KZ {P:Params}{h:Heap}{v:Value}{d:WData}(x:Well P h v d):wM P h v d:=by
 cases x with
 |int i t=>exact ⟨t,rfl⟩
 |list hg hi=>exact ⟨_,_,rfl,hg,hi⟩
 |_=>trivial
theorem Db {P:Params}{xs:List Int}:∀{vs:List Value},WellAll P h vs (xs.map WData.int)->aH ac ah (xs.map SV.int) vs:=by
 induction xs with
 |nil=>
  intro vs h
  cases h
  exact .nil
 |cons x xs ih=>
  intro vs h
  obtain ⟨v,r,rfl,a,b⟩:=wellAll_cons_inv h
  obtain ⟨t,rfl⟩:=KZ a
  exact .cons (.int _ _) (ih b)
end
end Mine
set_option maxHeartbeats 1000000
namespace Mine
open PySem PySem.W PySem.Calls PyProof.Rows PySem.Spec
noncomputable section
theorem Hx:bC c v (List.replicate N none) m ac ah:=by
 have z:∀{i:Nat} {val:SV},(List.replicate N (none:Option SV))[i]? =some (some val)->False:=λh=>by
  rw [List.getElem?_replicate] at h
  split at h<;>cases h
 exact ⟨λy i val h1 h2 h3=>(z h2).elim,λy i val h1 h2 h3=>(z h2).elim⟩
section
variable {c:Cx}{s s' :Shared}{A:Around}{f:Nat}{fd:FuncData}{m:Str->Option Value}{ac:ao}{ah:dN}{H:HP}
theorem y6 (hn:aV (c.into [] A s.heap [] f fd) m ac ah H s'):(∀b o,s.heap.get? b=some o->s'.heap.get? b=some o)/\s'.gens=c.gens/\s'.os=c.os:=by
 refine hn.gE λg T F N=> ?_
 exact ⟨λb o e=>F.keep b o (T.other b o e nofun),hn.sh.1,hn.sh.2.2⟩
theorem TY {X:Nat->Bool}(k:rg c.K c.S X fd fi)(h1:fi.fV=1){kindOf:Str->Option NameKind}(hk:∀x,fd.scope.names.lookup x=some .local->kindOf x=some .local)(h:(sS fd).ot.lookup y=some 0):
  fd.scope.names.lookup y=some .local/\bindL kindOf ((fd.params.args.map (·.arg)).zip [r]) (λu8=>none) y=some r:=by
 refine aZ (eY h) λj e1 e2=> ?_
 obtain rfl:j=0:=(e1.trans (Nat.zero_add j)).symm
 have hn:=h1.symm.trans k.na
 have hp:=k.pl
 unfold fE at e2
 generalize fd.params.args=as at*
 cases as with
 |nil=>cases hn
 |cons a l=>
  obtain rfl:l= []:=List.eq_nil_of_length_eq_zero (Nat.succ.inj hn).symm
  cases e2
  have q:=hp a (.head _)
  exact ⟨q,xR (List.pairwise_singleton _ _) (.head _) (hk _ q)⟩
theorem TB {S:lu}:fF p w S [] [] []:=⟨rfl,(λi o p h=>by cases h), .nil,(λp h=>by cases h),λp h=>by cases h⟩
noncomputable def E3 (K:Frag)(S:lu)(X:Nat->Bool)(f:Nat)(fi:Fn)(i w:Nat)(k:EK)(t:Option (SE×SE))(aI:cA):Prop:=
 ∃oc od fd yk,K.lookup (S.oG f)=some ⟨oc,od, .func fd,yk⟩/\rg K S X fd fi/\∃b,fd.body= .stmts b/\rU S X (sS fd) i w k t aI b
theorem Dz {X:Nat->Bool}{k:EK}{nm:String}{cl:Bool}
  (mW:wX c.K c.P c.S) (BG:Below callerA c.base [] (hideAll s.heap [])) (Ii:c.K.In c.base) (top:Top c.pv c.loose c.I1 c.mg c.mb c.base) (XK:c.K.In s.heap) (Eb:s.heap.NoLimit) (VG:Lo c.K c.S c.P X) (sh:s.gens=c.gens/\s.drawn=c.drawn/\s.os=c.os)
  (Tc:E3 c.K c.S X f ⟨nm,1, [],N,cl,b0⟩ i w k t aI) (hl:s.heap.IsList b aC.toArray) (hv:∀{ac ah},aH ac ah vs aC) (hle:vs.length<=big) (hu:gu w k t (.ref 0) (List.replicate N none) [.list (vs.take 7)]=some us)
  (e:aK c.P (run c.P 7) aI (al (List.replicate N none) i (.ref 1)) [.list (vs.take 7), .list us]= .ret (.bool true) H')
  (q:∀s',(∀b o,s.heap.get? b=some o->s'.heap.get? b=some o)->s'.gens=c.gens->s'.os=c.os->Q (.bool true) s'):aG (model c.prog c.w) callerA (PySem.call (.ref (c.S.oG f)) [.ref b]) Q E s:=by
 obtain ⟨oc,od,fd,yk,hK,k,bd,Q8,lO⟩:=Tc
 refine jn ?_
 refine yV (c:=c) (s:=s) (ac:= [(b,default)]) (ah:= [(b,b)]) (as:= [.ref 0]) (rs:= [.ref b]) k XK (.cons (.ref (p:=(b,b)) rfl) .nil) rfl λdv Rh xI=> ?_
 obtain rfl:dv= []:=List.eq_nil_of_length_eq_zero (Nat.succ.inj Rh.length).symm
 have Wn:fF c.prog c.w c.S [] [] []:=TB
 have d1:KtsDicts (([]:List Env).filterMap (·.frame)) (hideAll s.heap (([]:ao).map (·.1))):=λb hb=>by cases hb
 have d2:callerA.depth+10*(7+1)<=400:=by decide
 have d3:∀p∈([]:ao),s.heap.get? p.1=some p.2:=λp hp=>by cases hp
 have d4:callerA.handled=none:=rfl
 have z:= @EN c [] callerA [] [] f 7 fd _ X [.ref b] [] s [] oc od yk mW BG Ii top d1 XK Eb hK k d4 d2 .nil d3 Wn sh k.na xI
 refine z λcells kindOf body m s' hX ou Ca hb hc hm hk QV hn x9=> ?_
 have O:BZ (c.into [] callerA s.heap [] f fd) 0 7 4 (run c.P 7) (sS fd) X _:=⟨Ca,GT 7 _ VG Ca,Fl k,rfl,FM (n:=7) rfl rfl rfl (by decide) (by decide),VG.2⟩
 subst hm
 cases hb.symm.trans Q8
 refine DU O lO hn (l:=List.replicate N none) Hx (λy hy=>TY k rfl hk hy) (λje=> ?_) hv hle hu e λn1 l1=>λm' n2 l2 s2 rx fK x2 v2=> ?_
 ·refine mq hl λo h1 h2 h3=> ?_;clear hl
  exact ⟨o,(y6 je).1 _ _ h1,h2,h3⟩
 ·cases v2
  refine rB (y6 fK) λh1 h2 h3=> ?_
  exact q s2 h1 h2 h3
end
end
noncomputable section
noncomputable abbrev Ev (p:Prop):=Option (PLift p)
noncomputable def ck (b:Bool):Ev (b=true):=if h:b=true then some ⟨h⟩ else none
noncomputable def wq (b:Bool):Ev (b=false):=if h:b=false then some ⟨h⟩ else none
noncomputable def ce {α:Type}[DecidableEq α](a b:α):Ev (a=b):=if h:a=b then some ⟨h⟩ else none
noncomputable def cp (p:Prop)[Decidable p]:Ev p:=if h:p then some ⟨h⟩ else none
noncomputable def ev {p:Prop}(h:p):Ev p:=some ⟨h⟩
noncomputable def bd {p q:Prop}(x:Ev p)(f:p->Ev q):Ev q:=match x with
 |some h=>f h.down
 |none=>none
noncomputable def eo {p:Prop}(a b:Ev p):Ev p:=a.or b
noncomputable def se {p:Prop}{a b:Nat}(f:a=b->Ev p):Ev p:=if h:a=b then f h else none
theorem Ev.get {p:Prop}{x:Ev p}(h:x.isSome=true):p:=by
 cases x with
 |none=>exact yb h
 |some a=>exact a.down
section
variable (S:lu)(v:CV)
noncomputable def gW (x:Str){P:Option GV->Prop}(f:∀o,Ev (P o)):Ev (P (S.glob.lookup x)):=f _
noncomputable def gI (x:Str)(i:Int):Ev (S.glob.lookup x=some (.int i)):=gW S x (P:=λo=>o=some (.int i)) λo=>se λz9=>Option.some.elim o z9 λg=>se λz9=>GV.int.elim g z9 λj=>bd (ce j i) λh=>ev (congrArg (λz=>some (GV.int z)) h)
noncomputable def gB (x:Str)(i:By):Ev (S.glob.lookup x=some (.bytes i)):=gW S x (P:=λo=>o=some (.bytes i)) λo=>se λz9=>Option.some.elim o z9 λg=>se λz9=>GV.bytes.elim g z9 λj=>bd (ce j i) λh=>ev (congrArg (λz=>some (GV.bytes z)) h)
noncomputable def gF (x:Str)(i:Nat):Ev (S.glob.lookup x=some (.fn i)):=gW S x (P:=λo=>o=some (.fn i)) λo=>se λz9=>Option.some.elim o z9 λg=>se λz9=>GV.fn.elim g z9 λj=>bd (ce j i) λh=>ev (congrArg (λz=>some (GV.fn z)) h)
noncomputable def gC (x:Str)(i:Nat):Ev (S.glob.lookup x=some (.cls i)):=gW S x (P:=λo=>o=some (.cls i)) λo=>se λz9=>Option.some.elim o z9 λg=>se λz9=>GV.cls.elim g z9 λj=>bd (ce j i) λh=>ev (congrArg (λz=>some (GV.cls z)) h)
noncomputable def gN (x:Str)(i:Bi):Ev (S.glob.lookup x=some (.bi i)):=gW S x (P:=λo=>o=some (.bi i)) λo=>se λz9=>Option.some.elim o z9 λg=>se λz9=>GV.bi.elim g z9 λj=>bd (ce j i) λh=>ev (congrArg (λz=>some (GV.bi z)) h)
section
variable (r:∀x e,Ev (Ck S v x e))
noncomputable def Jj (xs:List Expr):∀es,Ev (zf S v xs es):=List.rec (motive:=λxs=>∀es,Ev (zf S v xs es)) (λes=>se λq=>nH.nil.elim es q (ev .nil)) (λx xs ih es=>se λq=>nH.cons.elim es q λe es=>bd (wq (stop x)) λh=>bd (r x e) λa=>bd (ih es) λb=>ev (.cons x xs e es h a b)) xs
noncomputable def QP (x:Option Expr)(e:SE):Ev (HR S v x e):=eo (se λz9=>Option.some.elim x z9 λx=>bd (r x e) λa=>ev (.some x e a)) (se λz9=>Option.none.elim x z9 (se λq=>SE.none.elim e q (ev .none)))
noncomputable def Q4 (b:List UInt8):By:=b.map λc=>(c.toNat:Int)
noncomputable def dk (x:Expr)(e:SE):Ev (Ck S v x e):=SE.casesOn (motive_1:=λe=>Ev (Ck S v x e)) e
 (se λz9=>Expr.Constant.elim x z9 λc9 k p=>se λz9=>Const.none.elim c9 z9<|ev (.none k p))
 (λb=>se λz9=>Expr.Constant.elim x z9 λc9 k p=>se λz9=>Const.bool.elim c9 z9 λc=>bd (ce c b) λh=>ev (h▸ .bool c k p))
 (λi=>eo (se λz9=>Expr.Constant.elim x z9 λc9 k p=>se λz9=>Const.int.elim c9 z9 λc=>bd (ce c i) λh=>ev (h▸ .int c k p)) (se λz9=>Expr.Name.elim x z9 λn p=>bd (ck (eg v n)) λg=>bd (gI S n i) λh=>ev (.SR n p i g h)))
 (λi=>eo (se λz9=>Expr.Constant.elim x z9 λc9 k p=>se λz9=>Const.bytes.elim c9 z9 λb=>bd (ce (Q4 b) i) λh=>bd (cp ((Q4 b).length<=big)) λl=>ev (h▸ .bytes b k p l)) (se λz9=>Expr.Name.elim x z9 λn p=>bd (ck (eg v n)) λg=>bd (gB S n i) λh=>ev (.M9 n p i g h)))
 (se λz9=>Expr.Constant.elim x z9 λc9 k p=>se λz9=>Const.str.elim c9 z9 λs=>ev (.text s k p))
 (λi=>se λz9=>Expr.Name.elim x z9 λn p=>bd (ck (gh v n i)) λh=>ev (.loc n p i h))
 (λa k=>se λz9=>Expr.Attribute.elim x z9 λo n p=>bd (ce (S.attr k) n) λh=>bd (ck (jV o)) λh1=>bd (r o a) λh2=>ev (h▸ .attr o p a k h1 h2))
 (λa i=>se λz9=>Expr.Subscript.elim x z9 λo j p=>bd (wq (stop j)) λh=>bd (r o a) λh1=>bd (r j i) λh2=>ev (.sub o j p a i h h1 h2))
 (λa lo hi=>se λz9=>Expr.Subscript.elim x z9 λo j p=>se λq=>Expr.Slice.elim j q λl h s q=>se λz9=>Option.none.elim s z9 (bd (r o a) λh1=>bd (QP S v r l lo) λh2=>bd (QP S v r h hi) λh3=>ev (.slice o l h q p a lo hi h1 h2 h3)))
 (λop a b=>se λz9=>Expr.BinOp.elim x z9 λl o y p=>bd (ce (lK op) o) λh=>bd (r l a) λh1=>bd (r y b) λh2=>ev (h▸ .bin l y p op a b h1 h2))
 (λa=>se λz9=>Expr.UnaryOp.elim x z9 λo y p=>se λq=>UnaryOp.USub.elim o q (bd (r y a) λh=>ev (.neg y p a h)))
 (λop a b=>se λq=>Expr.Compare.elim x q λl os ys p=>se λz9=>List.cons.elim os z9 λo r9=>se λz9=>List.nil.elim r9 z9<|se λz9=>List.cons.elim ys z9 λy r9=>se λz9=>List.nil.elim r9 z9<|bd (ce (sr op) o) λh=>bd (wq (stop y)) λh1=>bd (r l a) λh2=>bd (r y b) λh3=>ev (h▸ .cmp l y p op a b h1 h2 h3))
 (λes=>se λq=>Expr.BoolOp.elim x q λo xs p=>se λq=>BoolOp.And.elim o q (bd (Jj S v r xs es) λh=>ev (.and xs p es h)))
 (λes=>se λq=>Expr.BoolOp.elim x q λo xs p=>se λq=>BoolOp.Or.elim o q (bd (Jj S v r xs es) λh=>ev (.or xs p es h)))
 (λa=>se λz9=>Expr.UnaryOp.elim x z9 λo y p=>se λq=>UnaryOp.Not.elim o q (bd (r y a) λh=>ev (.not y p a h)))
 (λa b c=>se λq=>Expr.IfExp.elim x q λx y z p=>bd (r x a) λh1=>bd (r y b) λh2=>bd (r z c) λh3=>ev (.ite x y z p a b c h1 h2 h3))
 (λes=>se λz9=>Expr.Tuple.elim x z9 λxs k p=>bd (cp (xs.length<=30)) λh=>bd (Jj S v r xs es) λh1=>ev (.tuple xs k p es h h1))
 (λes=>se λq=>Expr.List.elim x q λxs p=>bd (cp (xs.length<=30)) λh=>bd (Jj S v r xs es) λh1=>ev (.list xs p es h h1))
 (se λq=>Expr.Dict.elim x q λks vs p=>se λz9=>List.nil.elim ks z9 (se λz9=>List.nil.elim vs z9 (ev (.aM p))))
 (λf es=>se λz9=>Expr.Call.elim x z9 λg9 xs GE p=>se λz9=>List.nil.elim GE z9<|se λz9=>Expr.Name.elim g9 z9 λn q=>bd (ck (eg v n)) λg=>bd (gF S n f) λh=>bd (Jj S v r xs es) λc=>ev (.fT n q xs p f es g h c))
 (λf es=>se λz9=>Expr.Call.elim x z9 λg9 xs GE p=>se λz9=>List.nil.elim GE z9<|se λz9=>Expr.Name.elim g9 z9 λn q=>bd (ck (eg v n)) λg=>bd (gC S n f) λh=>bd (Jj S v r xs es) λc=>ev (.callC n q xs p f es g h c))
 (λf es=>se λz9=>Expr.Call.elim x z9 λg9 xs GE p=>se λz9=>List.nil.elim GE z9<|se λz9=>Expr.Name.elim g9 z9 λn q=>bd (ck (eg v n)) λg=>bd (gN S n f) λh=>bd (Jj S v r xs es) λc=>ev (.bH n q xs p f es g h c))
 (λa k es=>se λz9=>Expr.Call.elim x z9 λf xs GE p=>se λz9=>List.nil.elim GE z9<|se λz9=>Expr.Attribute.elim f z9 λo n q=>bd (ce (S.attr k) n) λh=>bd (ck (jV o)) λh1=>bd (cp (xs.length<30)) λh2=>bd (ce q.endLine p.line) λh3=>bd (r o a) λh4=>bd (Jj S v r xs es) λh5=>ev (h▸ .ez o q xs p a k es h1 h2 h3 h4 h5))
 (λes=>se λz9=>Expr.BinOp.elim x z9 λl o y p=>se λz9=>Expr.Constant.elim l z9 λc9 k q=>se λz9=>Const.str.elim c9 z9 λs=>se λz=>Operator.Mod.elim o z (se λz9=>Expr.Tuple.elim y z9 λxs j u=>bd (ce ("entry %d does not follow %d":Str) s) λh=>bd (cp (xs.length=2)) λh1=>bd (Jj S v r xs es) λh2=>ev (h▸ .AH k q xs j u p es h1 h2)))
 (λa=>se λz9=>Expr.BinOp.elim x z9 λl o y p=>se λz9=>Expr.Constant.elim l z9 λc9 k q=>se λz9=>Const.str.elim c9 z9 λs=>se λz=>Operator.Mod.elim o z (bd (ce ("no command is of kind %d":Str) s) λh=>bd (r y a) λh1=>ev (h▸ .xK k q y p a h1)))
 (λa=>se λq=>Expr.JoinedStr.elim x q λxs p=>se λz9=>List.cons.elim xs z9 λy xs=>se λz9=>List.cons.elim xs z9 λz r9=>se λz9=>List.nil.elim r9 z9<|se λq=>Expr.FormattedValue.elim y q λw c o q=>se λz9=>Option.none.elim o z9 (se λz9=>Expr.Constant.elim z z9 λc9 k u=>se λz9=>Const.str.elim c9 z9 λs=>bd (ce (" octets are left over":Str) s) λh=>bd (ce (-1) c) λhc=>bd (r w a) λh1=>ev (h▸hc▸ .zU w q k u p a h1)))
end
noncomputable def dx:∀x e,Ev (Ck S v x e):=Nat.rec (motive:=λu8=>∀x e,Ev (Ck S v x e)) (λu8 u8=>none) (λu8 r=>dk S v r) 40
noncomputable def Pp (sc:Scope)(ts:List Str):∀a e,Ev (Cp v sc ts a e):=Nat.rec (motive:=λu8=>∀a e,Ev (Cp v sc ts a e)) (λu8 u8=>none) (λu8 r a e=>
 eo (se λq=>SE.loc.elim a q λi=>se λz9=>Expr.Name.elim e z9 λn p=>bd (ck (BA v sc ts n i)) λh=>ev (.loc n p i h))<|
 eo (se λq=>SE.int.elim a q λi=>se λz9=>Expr.Constant.elim e z9 λc9 k p=>se λz9=>Const.int.elim c9 z9 λj=>bd (ce j i) λh=>ev (h▸ .int j k p))<|
 eo (se λq=>SE.bytes.elim a q λi=>se λz9=>Expr.Constant.elim e z9 λc9 k p=>se λz9=>Const.bytes.elim c9 z9 λb=>bd (ce (Q4 b) i) λh=>bd (cp ((Q4 b).length<=big)) λl=>ev (h▸ .bytes b k p l))<|
 eo (se λq=>SE.sub.elim a q λa i=>se λz9=>Expr.Subscript.elim e z9 λo j p=>bd (wq (stop j)) λh=>bd (r a o) λh1=>bd (r i j) λh2=>ev (.sub o j p a i h h1 h2))<|
 (se λq=>SE.bin.elim a q λop a b=>se λz9=>Expr.BinOp.elim e z9 λl o y p=>bd (ce (lK op) o) λh=>bd (r a l) λh1=>bd (r b y) λh2=>ev (h▸ .bin l y p op a b h1 h2))) 20
noncomputable def Ts (sc:Scope)(ts:List Str)(k:EK)(x:Expr):Ev (Co v sc ts k x):=EK.casesOn (motive:=λk=>Ev (Co v sc ts k x)) k
 (λa=>bd (Pp v sc ts a x) λh=>ev (.one a x h))
 (λa b=>se λz9=>Expr.Tuple.elim x z9 λes k p=>se λz9=>List.cons.elim es z9 λx es=>se λz9=>List.cons.elim es z9 λy r9=>se λz9=>List.nil.elim r9 z9<|bd (wq (stop x)) λh1=>bd (wq (stop y)) λh2=>bd (Pp v sc ts a x) λh3=>bd (Pp v sc ts b y) λh4=>ev (.pair a b x y k p h1 h2 h3 h4))
noncomputable def Oe (sc:Scope)(ts:List Str)(t:Option (SE×SE))(x:List Expr):Ev (rD v sc ts t x):=eo (se λz9=>Option.none.elim t z9 (se λz9=>List.nil.elim x z9 (ev .none)))<|se λz9=>Option.some.elim t z9 λt=>Prod.casesOn (motive:=λt=>Ev (rD v sc ts (some t) x)) t λa b=>se λz9=>List.cons.elim x z9 λx r9=>se λz9=>List.nil.elim r9 z9<|se λq=>Expr.Compare.elim x q λl os ys p=>se λz9=>List.cons.elim os z9 λo r9=>se λz9=>List.nil.elim r9 z9<|se λz9=>List.cons.elim ys z9 λy r9=>se λz9=>List.nil.elim r9 z9<|bd (ce CmpOp.Eq o) λe=>bd (wq (behindInMarks .Eq y)) λh=>bd (Pp v sc ts a l) λh1=>bd (Pp v sc ts b y) λh2=>ev (e▸ .some a b l y p h h1 h2)
noncomputable def U0 (x:Expr)(r:List Str):List Str:=if h:x.ctorIdx=23 then Expr.Name.elim (motive_1:=λu8=>List Str) x h λn u8=>n::r else []
noncomputable def Q9 (es:List Expr):List Str:=List.rec (motive:=λu8=>List Str) [] (λx u8 r=>U0 x r) es
noncomputable def ID (x:Expr):List Str:=if h:x.ctorIdx=25 then Expr.Tuple.elim (motive_1:=λu8=>List Str) x h λes u8 u8=>Q9 es else U0 x []
noncomputable def Tr (es:List Expr):Ev (DD es (Q9 es)):=List.rec (motive:=λes=>Ev (DD es (Q9 es))) (ev .nil) (λx es ih=>bd ih λh=>se λz9=>Expr.Name.elim x z9 λn p=>ev (.cons n p es _ h)) es
noncomputable def Sl (w:Nat)(x:Expr):Ev (Tg w x (ID x)):=eo (se λz9=>Expr.Name.elim x z9 λn p=>bd (ce 1 w) λh=>ev (h▸ .name n p))<|se λz9=>Expr.Tuple.elim x z9 λes k p=>bd (cp (w≠1)) λh1=>bd (cp ((Q9 es).length=w)) λh2=>bd (Tr es) λh3=>ev (.tup es k p _ w h1 h2 h3)
noncomputable def U9 (es:List Expr):∀is,Ev (CN v es is):=List.rec (motive:=λes=>∀is,Ev (CN v es is)) (λis=>se λz9=>List.nil.elim is z9 (ev .nil)) (λx es ih is=>se λz9=>List.cons.elim is z9 λi is=>se λz9=>Expr.Name.elim x z9 λn p=>bd (ce (v.ot.lookup n) (some i)) λh=>bd (ih is) λt=>ev (.cons n p i es is h t)) es
noncomputable def W8 (x:Expr)(is:List Nat):Ev (CT v x is):=eo (se λz9=>Expr.Name.elim x z9 λn p=>se λz9=>List.cons.elim is z9 λi r9=>se λz9=>List.nil.elim r9 z9<|bd (ce (v.ot.lookup n) (some i)) λh=>ev (.name n p i h))<|se λz9=>Expr.Tuple.elim x z9 λes k p=>bd (cp (es.length≠1)) λh=>bd (U9 v es is) λh1=>ev (.tup es k p is h h1)
noncomputable def WJ (t e:Expr)(u:ST):Ev (Ct S v t e u):=ST.casesOn (motive:=λu=>Ev (Ct S v t e u)) u
 (λi=>se λz9=>Expr.Name.elim t z9 λn p=>bd (ce (v.ot.lookup n) (some i)) λh=>ev (.name n p i e h))
 (λa k=>se λz9=>Expr.Attribute.elim t z9 λo n p=>bd (ce (S.attr k) n) λh=>bd (dx S v o a) λh1=>ev (h▸ .attr o p a k e h1))
 (λa i=>se λz9=>Expr.Subscript.elim t z9 λo j p=>bd (dx S v o a) λh1=>bd (dx S v j i) λh2=>ev (.sub o j p a i e h1 h2))
 (λis=>se λz9=>Expr.Tuple.elim t z9 λes k p=>bd (cp (es.length≠1)) λh1=>bd (U9 v es is) λh2=>bd (wq (Ao e)) λh3=>ev (.tup es k p is e h1 h2 h3))
variable (X:Nat->Bool)
noncomputable def XR (kk:Nat)(xs:List Stmt)(h:HS):Ev (Ch S X v kk xs h):=se λz9=>List.cons.elim xs z9 λx r9=>se λz9=>List.nil.elim r9 z9<|HS.casesOn (motive:=λh=>Ev (Ch S X v kk [x] h)) h
 (se λz9=>Stmt.Return.elim x z9 λe9 p=>se λz9=>Option.some.elim e9 z9 λe=>se λz9=>Expr.Constant.elim e z9 λc9 k q=>se λz9=>Const.none.elim c9 z9<|ev (.jN k q p))
 (λi b=>se λz9=>Stmt.Assign.elim x z9 λJS e u=>se λz9=>List.cons.elim JS z9 λt r9=>se λz9=>List.nil.elim r9 z9<|se λz9=>Expr.Name.elim t z9 λn p=>se λz9=>Expr.Constant.elim e z9 λc9 k q=>se λz9=>Const.bool.elim c9 z9 λb' =>bd (ce b' b) λh=>bd (ce (v.ot.lookup n) (some i)) λh1=>ev (h▸ .setB n p b' k q u i h1))
 (λi k=>se λz9=>Stmt.AugAssign.elim x z9 λt o e u=>se λz9=>Expr.Name.elim t z9 λn p=>se λz9=>Expr.Constant.elim e z9 λc9 j q=>se λz9=>Const.int.elim c9 z9 λm=>se λz=>Operator.Add.elim o z (bd (ce m k) λh=>bd (ck (gh v n i)) λh1=>ev (h▸ .inc n p m j q u i h1)))
 (λj=>se λz9=>Stmt.Raise.elim x z9 λe9 c9 t=>se λz9=>Option.some.elim e9 z9 λe9=>se λz9=>Option.none.elim c9 z9<|se λz9=>Expr.Call.elim e9 z9 λg9 RT GE u=>se λz9=>List.nil.elim GE z9<|se λz9=>Expr.Name.elim g9 z9 λn p=>se λz9=>List.cons.elim RT z9 λm r9=>se λz9=>List.nil.elim r9 z9<|se λz9=>Expr.Constant.elim m z9 λc9 k q=>se λz9=>Const.str.elim c9 z9 λs=>bd (ck (eg v n)) λh1=>bd (gC S n j) λh2=>bd (ck (X j)) λh3=>bd (ck (S.HU j)) λh4=>bd (wq (S.HU kk)) λh5=>bd (ck (v5 v)) λh6=>ev (.raise n p s k q u t j h1 h2 h3 h4 h5 h6))
section
variable (r:∀x e,Ev (Cs S X v x e))
noncomputable def Lm (xs:List Stmt):∀es,Ev (xr S X v xs es):=List.rec (motive:=λxs=>∀es,Ev (xr S X v xs es)) (λes=>se λq=>cA.nil.elim es q (ev .nil)) (λx xs ih es=>se λq=>cA.cons.elim es q λe es=>bd (r x e) λa=>bd (ih es) λb=>ev (.cons x xs e es a b)) xs
noncomputable def dS (x:Stmt)(s:SS):Ev (Cs S X v x s):=SS.casesOn (motive_1:=λs=>Ev (Cs S X v x s)) s
 (ev (.bad x))
 (se λq=>Stmt.Pass.elim x q λp=>ev (.pass p))
 (se λq=>Stmt.Continue.elim x q λp=>ev (.cont p))
 (λe=>se λq=>Stmt.Expr.elim x q λy p=>bd (wq (ol y)) λh1=>bd (dx S v y e) λh2=>ev (.expr y p e h1 h2))
 (λu e=>se λz9=>Stmt.Assign.elim x z9 λJS y p=>se λz9=>List.cons.elim JS z9 λt r9=>se λz9=>List.nil.elim r9 z9<|bd (wq (ol y)) λh1=>bd (dx S v y e) λh2=>bd (WJ S v t y u) λh3=>ev (.j3 t y p u e h1 h2 h3))
 (λi w k tt it=>se λz9=>Stmt.Assign.elim x z9 λJS y p=>se λz9=>List.cons.elim JS z9 λt r9=>se λz9=>List.nil.elim r9 z9<|se λz9=>Expr.Name.elim t z9 λn py=>se λz9=>Expr.ListComp.elim y z9 λelt Oy sc lp=>se λz9=>List.cons.elim Oy z9 λg9 r9=>se λz9=>List.nil.elim r9 z9<|Comprehension.casesOn g9 λtg iter ifs a9=>se λz9=>Int.ofNat.elim a9 z9 λm9=>se λz9=>Nat.zero.elim m9 z9<|bd (ce (v.ot.lookup n) (some i)) λh1=>bd (ce (v.sc.names.lookup n) (some .local)) λh2=>bd (ck (py.line==lp.line)) λh3=>bd (wq (sc.names.any λp=>p.1==n&&(p.2== .local||p.2== .cell))) λh4=>bd (dx S v iter it) λh5=>bd (ck (sI v sc (ID tg))) λh6=>bd (Ts v sc (ID tg) k elt) λh7=>bd (Oe v sc (ID tg) tt ifs) λh8=>bd (Sl w tg) λh9=>bd (wq (stop iter)) λDI=>ev (.comp n py elt tg _ iter ifs sc lp p i w k tt it h1 h2 h3 h4 h5 h6 h7 h8 h9 DI))
 (λi w k it=>se λz9=>Stmt.Assign.elim x z9 λJS y p=>se λz9=>List.cons.elim JS z9 λt r9=>se λz9=>List.nil.elim r9 z9<|se λz9=>Expr.Name.elim t z9 λn py=>se λz9=>Expr.BinOp.elim y z9 λz o y bp=>se λz9=>Expr.Name.elim z z9 λz zp=>se λa=>Operator.Add.elim o a (se λz9=>Expr.ListComp.elim y z9 λelt Oy sc lp=>se λz9=>List.cons.elim Oy z9 λg9 r9=>se λz9=>List.nil.elim r9 z9<|Comprehension.casesOn g9 λtg iter ifs a9=>se λz9=>Int.ofNat.elim a9 z9 λm9=>se λz9=>Nat.zero.elim m9 z9<|se λz9=>List.nil.elim ifs z9 (bd (ce n z) λh=>bd (ck (gh v n i)) λh1=>bd (dx S v iter it) λh5=>bd (ck (sI v sc (ID tg))) λh6=>bd (Ts v sc (ID tg) k elt) λh7=>bd (Sl w tg) λh9=>bd (wq (stop iter)) λDI=>ev (h▸ .kU n py zp elt tg _ iter sc lp bp p i w k it h1 h5 h6 h7 h9 DI))))
 (λi op e=>se λz9=>Stmt.AugAssign.elim x z9 λt o y q=>se λz9=>Expr.Name.elim t z9 λn p=>bd (ce (lK op) o) λh=>bd (ck (gh v n i)) λh1=>bd (ck (tf op)) λh2=>bd (dx S v y e) λh3=>ev (h▸ .qh n p y q i op e h1 h2 h3))
 (λb a op e=>se λz9=>Stmt.AugAssign.elim x z9 λt o y q=>se λz9=>Expr.Attribute.elim t z9 λw n p=>bd (ce (lK op) o) λh=>bd (ce (S.attr a) n) λh0=>bd (ck (tf op)) λh1=>bd (dx S v w b) λh2=>bd (dx S v y e) λh3=>ev (h▸h0▸ .sK w p y q a op b e h1 h2 h3))
 (λe=>se λz9=>Stmt.Return.elim x z9 λe9 p=>se λz9=>Option.some.elim e9 z9 λy=>bd (dx S v y e) λh=>ev (.ret y p e h))
 (λt a b=>se λq=>Stmt.If.elim x q λy xs ys p=>bd (dx S v y t) λh1=>bd (Lm S v X r xs a) λh2=>bd (Lm S v X r ys b) λh3=>ev (.ifs y xs ys p t a b h1 h2 h3))
 (λis it b=>se λq=>Stmt.For.elim x q λt y xs zs p=>se λz9=>List.nil.elim zs z9 (bd (wq (stop y)) λh1=>bd (W8 v t is) λh2=>bd (dx S v y it) λh3=>bd (Lm S v X r xs b) λh4=>ev (.jd t y xs p is it b h1 h2 h3 h4)))
 (λt b=>se λq=>Stmt.While.elim x q λy xs zs p=>se λz9=>List.nil.elim zs z9 (bd (dx S v y t) λh1=>bd (Lm S v X r xs b) λh2=>ev (.xB y xs p t b h1 h2)))
 (λk e=>se λz9=>Stmt.Raise.elim x z9 λe9 c9 u=>se λz9=>Option.some.elim e9 z9 λe9=>se λz9=>Option.none.elim c9 z9<|se λz9=>Expr.Call.elim e9 z9 λg9 RT GE q=>se λz9=>List.nil.elim GE z9<|se λz9=>Expr.Name.elim g9 z9 λn p=>se λz9=>List.cons.elim RT z9 λm r9=>se λz9=>List.nil.elim r9 z9<|bd (ck (eg v n)) λh1=>bd (gC S n k) λh2=>bd (ck (X k)) λh3=>bd (wq (stop m)) λh4=>bd (dx S v m e) λh5=>bd (ck (v5 v)) λh6=>ev (.raise n p m q u k e h1 h2 h3 h4 h5 h6))
 (λb k h=>se λq=>Stmt.Try.elim x q λxs hs es fs u=>se λz9=>List.cons.elim hs z9 λhd r9=>se λz9=>List.nil.elim r9 z9<|se λz9=>List.nil.elim es z9 (se λz9=>List.nil.elim fs z9 (ExceptHandler.casesOn hd λty nm hs q=>se λz9=>Option.some.elim ty z9 λty=>se λz9=>Expr.Name.elim ty z9 λn p=>se λz9=>Option.none.elim nm z9 (bd (ck (eg v n)) λh1=>bd (gC S n k) λh2=>bd (ck (X k)) λh3=>bd (Lm S v X r xs b) λh4=>bd (XR S v X k hs h) λh5=>ev (.lM xs n p hs q u k b h h1 h2 h3 h4 h5)))))
 (λa i=>se λq=>Stmt.Delete.elim x q λts q=>se λz9=>List.cons.elim ts z9 λt r9=>se λz9=>List.nil.elim r9 z9<|se λz9=>Expr.Subscript.elim t z9 λo j p=>bd (dx S v o a) λh1=>bd (dx S v j i) λh2=>ev (.del o j p q a i h1 h2))
end
noncomputable def VM:∀x e,Ev (Cs S X v x e):=Nat.rec (motive:=λu8=>∀x e,Ev (Cs S X v x e)) (λu8 u8=>none) (λu8 r=>dS S v X r) 20
end
noncomputable def Za (K:Frag)(d:Value)(ds:List SV):Ev (sf K d ds):=eo (se λq=>Value.none.elim d q (se λz9=>List.nil.elim ds z9 (ev .no)))<|se λq=>Value.ref.elim d q λT=>se λz9=>List.cons.elim ds z9 λs r9=>se λz9=>List.nil.elim r9 z9<|se λq=>SV.int.elim s q λj=>match h:K.lookup T with
 |some ⟨c,e, .seq ⟨[.int j' t]⟩ n,s⟩=>bd (ce j' j) λq=>ev (.one (t:=t) (n:=n) h (q▸rfl))
 |_=>none
noncomputable def Tj (p:Arguments):Ev (p=⟨[],p.args,none, [], [],none,p.defaults⟩):=match p with
 |⟨[],a,none, [], [],none,d⟩=>ev (rfl)
 |_=>none
noncomputable def Ql (S:lu)(v:CV)(X:Nat->Bool)(b:FuncBody)(s:cA):Ev (∃c,b= .stmts c/\xr S X v c s):=se λq=>FuncBody.stmts.elim b q λc=>bd (Lm S v X (VM S v X) c s) λh=>ev ⟨c,rfl,h⟩
noncomputable def Jb (S:lu)(v:CV)(i w:Nat)(k:EK)(tt:Option (SE×SE))(lo hi:SE)(x:Stmt):Ev (wT S v i w k tt lo hi x):=se λz9=>Stmt.Assign.elim x z9 λJS y sp=>se λz9=>List.cons.elim JS z9 λt r9=>se λz9=>List.nil.elim r9 z9<|se λz9=>Expr.Name.elim t z9 λn py=>se λz9=>Expr.ListComp.elim y z9 λelt Oy sc lp=>se λz9=>List.cons.elim Oy z9 λg9 r9=>se λz9=>List.nil.elim r9 z9<|Comprehension.casesOn g9 λtg it ifs a9=>se λz9=>Int.ofNat.elim a9 z9 λm9=>se λz9=>Nat.zero.elim m9 z9<|se λz9=>Expr.Subscript.elim it z9 λo j p=>se λz9=>Expr.Name.elim o z9 λz p1=>se λq=>Expr.Slice.elim j q λl h s p2=>se λz9=>Option.none.elim s z9 (bd (ce (v.ot.lookup n) (some i)) λh1=>bd (ce (v.sc.names.lookup n) (some .local)) λh2=>bd (ck (py.line==lp.line)) λh3=>bd (wq (sc.names.any λp=>p.1==n&&(p.2== .local||p.2== .cell))) λh4=>bd (ck (gh v z 0)) λz1=>bd (QP S v (dx S v) l lo) λz2=>bd (QP S v (dx S v) h hi) λz3=>bd (ck (sI v sc (ID tg))) λh6=>bd (Ts v sc (ID tg) k elt) λh7=>bd (Oe v sc (ID tg) tt ifs) λh8=>bd (Sl w tg) λh9=>ev (.mk n py elt tg _ z p1 l h p2 p ifs sc lp sp h1 h2 h3 h4 z1 z2 z3 h6 h7 h8 h9))
noncomputable def T8 (S:lu)(X:Nat->Bool)(v:CV)(i w:Nat)(k:EK)(t:Option (SE×SE))(aI:cA)(b:FuncBody):Ev (∃c,b= .stmts c/\rU S X v i w k t aI c):=se λq=>FuncBody.stmts.elim b q λc=>se λz9=>List.cons.elim c z9 λy ys=>bd (Jb S v i w k t .none (.int 7) y) λh1=>bd (Lm S v X (VM S v X) ys aI) λh2=>ev ⟨_,rfl, .mk y ys h1 h2⟩
noncomputable def Vy (K:Frag)(S:lu)(X:Nat->Bool)(fd:FuncData)(fi:Fn):Ev (rg K S X fd fi):=bd (ce fd.globals mainGlobals) λh1=>bd (ce fd.closure []) λh2=>bd (ce fd.builtins builtinsNs) λh3=>bd (ck (codeIn K fd.code fd.qualname)) λh4=>bd (wq fd.scope.isCoroutine) λh5=>bd (wq fd.scope.isGenerator) λh6=>bd (ce fd.scope.kind .function) λh7=>bd (Tj fd.params) λh8=>bd (ce fi.fV fd.params.args.length) λh9=>bd (ce fi.oj (fE fd).length) λDI=>bd (cp (fE fd).Nodup) λC4=>bd (cp (∀x∈fE fd,fd.scope.names.lookup x=some .local∨fd.scope.names.lookup x=some .cell)) λKA=>bd (cp (∀a∈fd.params.args,fd.scope.names.lookup a.arg=some .local)) λI6=>bd (cp ((cellsFrom 0 fd.scope.names []).map (·.1)).Nodup) λLa=>bd (cp (fi.cells=false->(fd.scope.names.all λp=>p.2 != .cell)=true)) λRs=>bd (Za K fd.defaults fi.dflt) λYc=>bd (Ql S (sS fd) X fd.body fi.body) λNi=>ev ⟨h1,h2,h3,h4,h5,h6,h7,h8,h9,DI,C4,KA,I6,La,Rs,Yc,Ni⟩
end
end Mine
namespace Mine
noncomputable section
open PySem PySem.W PySem.Calls PyProof.Rows
noncomputable abbrev qP:Program:=PySem.Challenge.pw_no0425_01
noncomputable def Su:List Stmt->Nat->Stmt
 |x::_,0=>x
 |_::r,n+1=>Su r n
 | [],_=> .Pass ⟨0,0,0,0⟩
noncomputable def nb (i:Nat):Stmt:=Su qP.main.body i
noncomputable def nm (i j:Nat):Stmt:=if h:(nb i).ctorIdx=2 then Stmt.ClassDef.elim (motive_2:=λu8=>Stmt) (nb i) h λu8 u8 u8 b u8 u8 u8 u8 u8 u8 u8=>Su b j else nb i
noncomputable def X6 (q:Str)(n:Str)(a:Arguments)(b:List Stmt)(sc:Scope):FuncData:={name:=n,qualname:=q,params:=a,body:= .stmts b,scope:=sc,globals:=builtinsNs,closure:= [],defaults:= .none,kwdefaults:= .none}
noncomputable abbrev zs:=Str.ofString
noncomputable def qt (l:List Value):Obj:=⟨.type "tuple",none, .seq ⟨l⟩ 0, #[]⟩
noncomputable def qf (l:List Value):Obj:=⟨.none,none, .fields ⟨l⟩, #[]⟩
noncomputable def qF (c:String)(l:List Value):Obj:=⟨.type c,none, .fields ⟨l⟩, #[]⟩
noncomputable def sv (s:String)(t:Nat):Value:= .str (zs s) t
noncomputable def kz (P:Params)(s:Str)(t:Nat)(v:Value):DictEntry:=⟨PyData.keyHash P s, .str s t,v⟩
noncomputable def ke (P:Params)(s:String)(t:Nat)(v:Value):DictEntry:=kz P (zs s) t v
noncomputable def ni (n:Nat)(t:Nat):Value:= .int n t
noncomputable def nl:Nat->List Str->List Value
 |_, []=> []
 |t,s::r=> .str s t::nl (t+1) r
noncomputable def qc (n q:Str)(t ln na fl a:Nat)(b:Bool)(x y z:Value)(u:Nat):Obj:=
 qF "code" [.str n t, .str q (t+1),sv "/claim/cut.py" (t+2),ni ln 0,ni na 0,ni 0 0,ni 0 0,ni fl 0, .ref a, .bool b,ni 181 0, .ref (a+1), .none,x,y,z,ni u 0,ni ln 0,sv "/claim/cut.py" (u+1)]
noncomputable def qd (c:Value)(d:Option Addr)(l:List DictEntry)(n:Nat):Obj:=⟨c,d, .dict ⟨l⟩ n, #[]⟩
noncomputable def qp (c:String)(d:Option Addr)(l:List (Option Value)):Obj:=⟨.type c,d, .plain,⟨l⟩⟩
structure It where
 o:List Obj
 e:List DictEntry
 c:List Value
 t:Nat
noncomputable def WS (P:Params)(a t:Nat)(m d:Value)(col:Nat)(n q:Str)(ln na:Nat)(f:FuncData):Option (List Str×List Str)->It
 |some x=>⟨[qt [],qf [],qt (nl (t+3) x.1),qt [],⟨.none,none, .func f, #[]⟩,qc n q t ln na 3 a true (.ref (a+2)) (.ref (a+3)) (.ref (a+4)) (t+(3+x.1.length)),⟨.type "function",none, .func {f with globals:=mainGlobals,pyModule:=m,code:= .ref (a+5),defaults:=d,doc:= .none}, #[]⟩], [kz P n (t+(5+x.1.length)) (.ref (a+6))], [ni ln 0,ni col 0, .ref (a+5)],t+(6+x.1.length)⟩
 |none=>⟨[qt [],qf [],⟨.none,none, .func f, #[]⟩,qc n q t ln na 3 a true .none .none (.ref (a+2)) (t+3),⟨.type "function",none, .func {f with globals:=mainGlobals,pyModule:=m,code:= .ref (a+3),defaults:=d,doc:= .none}, #[]⟩], [kz P n (t+5) (.ref (a+4))], [ni ln 0,ni col 0, .ref (a+3)],t+6⟩
noncomputable def fg (P:Params)(a t:Nat)(q:Str->Str)(m d:Value)(col:Nat)(s:Stmt):It:=if h:s.ctorIdx=0 then Stmt.FunctionDef.elim (motive_2:=λu8=>It) s h λn p b u8 u8 u8 sc u8 u8 ps=>WS P a t m d col n (q n) ps.line p.args.length (X6 (q n) n p b sc) (localNames p sc (.stmts b)) else ⟨[], [], [],t⟩
noncomputable def Q2 (P:Params)(m:Value)(q:Str->Str)(col:Nat):Nat->Nat->List Stmt->It
 |_,t, []=>⟨[], [], [],t⟩
 |a,t,s::r=>
  let x:=fg P a t q m .none col s
  let y:=Q2 P m q col (a+x.o.length) x.t r
  ⟨x.o++y.o,x.e++y.e,x.c++y.c,y.t⟩
noncomputable def VP (P:Params)(a:Nat)(n:Str)(b:List Value)(m:Value)(T ln:Nat)(e:List DictEntry)(c:List Value):List Obj:=
 [qt b,qF "builtin_function_or_method" [.builtin "type.__prepare__", .type "type"],qd (.type "dict") none (ke P "__module__" (T+7) m::ke P "__qualname__" (T+9) (.str n (T+8))::ke P "__firstlineno__" (T+11) (ni ln (T+10))::e) (3+e.length),qt [],qf c,qc n n (T+2) ln 0 0 (a+3) false .none .none .none (T+5),
  qp "frame" none [some (.ref (a+5)),some (.ref 3),some (.ref (a+2)),none,some m,none,some (.ref 0)]]
noncomputable def cO (x:Nat)(n:Str)(b mro sub:List Value)(T:Nat)(l:Option Value)(nw:String):Obj:=⟨.type "type",none, .cls ⟨n,b, .ref (x+1)::mro,x,n,true, [],sub,false,none,false⟩,⟨[l,none,some (.str n T),some (.str n (T+8)),some (.builtin nw),some (.bool true)]⟩⟩
noncomputable def UQ (P:Params)(x:Nat)(n:Str)(b mro sub:List Value)(m:Value)(T ln:Nat)(e:List DictEntry)(k:Nat)(l:Option Value)(nw:String)(w:List Obj):List Obj:=
 qd (.type "dict") none (ke P "__module__" (T+7) m::ke P "__firstlineno__" (T+11) (ni ln (T+10))::e) k::
 cO x n b mro sub T l nw::
 (w++ [qF "super" [.ref (x+1), .ref (x+1), .ref (x+1)],qF "builtin_function_or_method" [.builtin "object.__init_subclass__", .ref (x+1)]])
noncomputable def wr (x t:Nat):Obj:=qF "getset_descriptor" [sv "__weakref__" t, .ref x, .builtin "ExceptionGroup.__weakref__", .none]
noncomputable def R1:List Value:= [.type "Exception", .type "BaseException", .type "object"]
noncomputable def IB (P:Params)(a T:Nat)(m:Value)(mro sub:List Nat)(s:Stmt):It:=if h:s.ctorIdx=2 then Stmt.ClassDef.elim (motive_2:=λu8=>It) s h λn u8 u8 u8 u8 u8 u8 u8 u8 u8 ps=>
  let w:=mro.isEmpty
  let b:=match mro with| []=>Value.type "Exception"|x::_=> .ref x
  let S:=T+12
  let st:=ke P "__static_attributes__" S (.ref (a+7))
  ⟨VP P a n [b] m T ps.line [st] []++qt []::UQ P (a+8) n [b] (mro.map .ref++R1) (sub.map .ref) m T ps.line (st::(if w then [ke P "__weakref__" (T+14) (.ref (a+10)),ke P "__doc__" (T+15) .none] else [ke P "__doc__" (T+13) .none])) (if w then 3 else 2) (some (.ref a)) "Exception.__new__" (if w then [wr (a+9) (T+13)] else []),
   [kz P n (if w then T+19 else T+15) (.ref (a+9))], [ni ps.line 0,ni 0 0, .ref (a+5)],0⟩ else ⟨[], [], [],T⟩
noncomputable def K0 (P:Params)(a T:Nat)(m:Value)(dd:List Value)(s:Stmt):It:=if h:s.ctorIdx=2 then Stmt.ClassDef.elim (motive_2:=λu8=>It) s h λn u8 u8 bs u8 u8 u8 u8 u8 sa ps=>
  let q:=λf=>n++zs "."++f
  let x:=match dd with
   | []=>Q2 P m q 4 (a+7) (T+12) bs
   |v::_=>match bs with
    | []=>⟨[], [], [],T⟩
    |s0::r=>
     let x0:=fg P (a+8) (T+13) q m (.ref (a+7)) 4 s0
     let y:=Q2 P m q 4 (a+(8+x0.o.length)) x0.t r
     ⟨qt [v]::(x0.o++y.o),x0.e++y.e,x0.c++y.c,y.t⟩
  let b:=a+(7+x.o.length)
  let S:=x.t+sa.length
  let st:=ke P "__static_attributes__" S (.ref b)
  ⟨VP P a n [] m T ps.line (x.e++ [st]) x.c++x.o++qt (nl x.t sa)::UQ P (b+1) n [.type "object"] [.type "object"] [] m T ps.line (x.e++ [st,ke P "__dict__" (S+2) (.ref (b+3)),ke P "__weakref__" (S+4) (.ref (b+4)),ke P "__doc__" (S+5) .none]) 4 none "object.__new__" [qF "getset_descriptor" [sv "__dict__" (S+1), .ref (b+2), .builtin "function.__dict__", .builtin "function.__dict__#set"],wr (b+2) (S+3)],
   [kz P n (S+7) (.ref (b+2))], [ni ps.line 0,ni 0 0, .ref (a+5)],0⟩ else ⟨[], [], [],T⟩
section
local macro_rules (kind := num) | `($n:num) => if n.getNat < 120 then Lean.Macro.throwUnsupported else `(nat_lit $n)
noncomputable def V2 (a n:Nat):List Stmt:=(qP.main.body.drop a).take n
noncomputable def kI (P:Params)(t:Nat):List (String×Nat)->List DictEntry
 | []=> []
 |(s,v)::r=>ke P s (t+1) (ni v t)::kI P (t+2) r
noncomputable def kB (P:Params)(t:Nat):List (String×UInt8)->List DictEntry
 | []=> []
 |(s,v)::r=>ke P s (t+1) (.bytes #[v] t)::kB P (t+2) r
noncomputable def PC (e:List DictEntry):It:=⟨[],e, [],0⟩
noncomputable def m1:Value:=sv "raftkeep.errors" 194
noncomputable def m2:Value:=sv "raftkeep.octets" 344
noncomputable def m3:Value:=sv "raftkeep.keys" 646
noncomputable def m4:Value:=sv "raftkeep.messages" 771
noncomputable def m5:Value:=sv "raftkeep.commands" 946
noncomputable def m6:Value:=sv "law_no0425_01" 1401
noncomputable def ts (P:Params):List It:=
 let F:=λm a t i n=>Q2 P m id 0 a t (V2 i n)
 [F (sv "__main__" 164) 15 187 0 1,IB P 22 196 m1 [] [44,104] (nb 2),IB P 35 216 m1 [31] [56,80,92] (nb 3),IB P 47 232 m1 [44,31] [68] (nb 4),IB P 59 248 m1 [56,44,31] [] (nb 5),IB P 71 264 m1 [44,31] [] (nb 6),IB P 83 280 m1 [44,31] [] (nb 7),IB P 95 296 m1 [31] [116,128] (nb 8),IB P 107 312 m1 [104,31] [] (nb 9),IB P 119 328 m1 [104,31] [] (nb 10),
  PC (kI P 346 [("MAX_32",4294967295),("MAX_64",18446744073709551615)]),F m2 131 350 14 12,K0 P 215 450 m2 [ni 0 462] (nb 26),K0 P 300 555 m2 [] (nb 27),
  PC (kI P 648 [("KIND_DELETE",0),("KIND_VALUE",1),("MAX_SEQ",72057594037927935),("BATCH_HEAD",12)]),K0 P 377 656 m3 [] (nb 33),F m3 461 763 34 1,
  PC (kI P 773 [("ENTRY_CONF",2)]),F m4 468 775 37 2,K0 P 482 792 m4 [] (nb 39),K0 P 531 855 m4 [] (nb 40),F m4 566 906 41 4,
  PC (kI P 948 [("CMD_NONE",0),("CMD_PUT",1),("CMD_DELETE",2),("CMD_CAS",3),("CMD_OPEN",5),("CMD_CLOSE",6),("REPLY_OK",0),("REPLY_NO",1),("REPLY_UNKNOWN",2),("REPLY_STALE",3)]),
  PC (kB P 968 [("APPLIED_KEY",97),("DATA_HEAD",100),("DATA_END",101),("SESSION_HEAD",115),("SESSION_END",116)]),
  K0 P 594 978 m5 [] (nb 61),F m5 629 1032 62 9,K0 P 692 1115 m5 [] (nb 71),F m5 811 1297 72 1,K0 P 818 1305 m5 [] (nb 73),F m6 888 1403 75 9]
noncomputable def oA:List It->List Obj
 | []=> []
 |x::r=>x.o++oA r
noncomputable def oE:List It->List DictEntry
 | []=> []
 |x::r=>x.e++oE r
noncomputable def oC:List It->List Value
 | []=> []
 |x::r=>x.c++oC r
noncomputable def kd (P:Params)(v:Value)(e:List DictEntry)(n:Nat):Obj:=qd (.type "dict") none (ke P "__name__" 165 v::ke P "__doc__" 166 .none::ke P "__package__" 167 .none::ke P "__loader__" 168 (.builtin "__main__.__loader__#opaque")::ke P "__spec__" 169 .none::ke P "__annotations__" 170 (.ref 6)::ke P "__builtins__" 171 (.ref 4)::ke P "__file__" 173 (sv "/claim/cut.py" 172)::ke P "__cached__" 174 .none::e) n
noncomputable def Uw (l:List Obj):Bool->List Obj:=List.rec (motive:=λu8=>Bool->List Obj) (λu8=> []) (λx u8 ih b=>bif b then x::ih false else ih true) l
noncomputable def bt (n:Nat):List Obj->BT:=Nat.rec (motive:=λu8=>List Obj->BT) (λu8=> .nil) (λu8 ih l=>List.rec (motive:=λu8=>BT) .nil (λx r u8=> .node x (ih (Uw r true)) (ih (Uw r false))) l) n
noncomputable def TF (P:Params):BT:=bt 10 (boot_o_0 P::boot_o_1 P::qd .none none [ke P "type.__subclasses__.Exception.0" 212 (.int 31 0),ke P "type.__subclasses__.Exception.n" 213 (.int 1 0)] 2::kd P m6 (oE (ts P)) 87::boot_o_4 P::boot_o_5 P::qd (.type "dict") none [] 0::qt []::qf []::boot_o_9 P::boot_o_10 P::qt []::qf (oC (ts P))::qc (zs "<module>") (zs "<module>") 182 1 0 0 11 false .none .none .none 185::qp "frame" none [some (.ref 13),some (.ref 3),some (.ref 3),none,some (sv "__main__" 164),none,some (.ref 0)]::oA (ts P))
noncomputable def Sj (n:Nat):BT->Nat->Nat->BT
 | .nil,_,_=> .nil
 | .node v l r,a,b=>match Nat.blt b n with
  |true=> .node v (Sj n l (2*a) (a+b)) (Sj n r (2*a) (2*a+b))
  |false=> .nil
noncomputable def UG (t:BT):List (Nat×Obj)->BT
 | []=>t
 |(i,o)::r=>UG (t.set i λu8=>o) r
noncomputable def dr:Drawn:=boot_drawn
noncomputable def Qx (P:Params)(n:Nat)(v:Value)(k j:Nat)(r:List (Nat×Obj)):BT:=UG (Sj n (TF P) 1 0) ((3,kd P v ((oE (ts P)).take k) (9+k))::(12,qf ((oC (ts P)).take (3*j)))::r)
noncomputable def Q0 (P:Params):BT:=Qx P 15 (sv "__main__" 164) 0 0 [(2,qd .none none [] 0)]
noncomputable def Q5 (P:Params):BT:=Qx P 71 m1 5 5 [(31,cO 30 (zs "KeepError") [.type "Exception"] R1 [.ref 44] 196 (some (.ref 22)) "Exception.__new__"),(44,cO 43 (zs "StoreError") [.ref 31] (.ref 31::R1) [.ref 56] 216 (some (.ref 35)) "Exception.__new__")]
noncomputable def Vo (P:Params):BT:=Qx P 131 m1 10 10 []
noncomputable def UL (P:Params):BT:=Qx P 300 m2 25 23 []
noncomputable def Uk (P:Params):BT:=Qx P 461 m3 31 25 []
noncomputable def UD (P:Params):BT:=Qx P 566 m4 37 30 []
noncomputable def Vl (P:Params):BT:=Qx P 692 m5 66 44 []
noncomputable def Vu (P:Params):BT:=Qx P 811 m5 67 45 []
noncomputable def RB (P:Params):BT:=TF P
end
noncomputable def qg:Env:={scope:=qP.main.scope,locals:=mainNs,globals:=mainNs,cells:= [],code:= .ref 13,frame:=some 14}
noncomputable def slice (l:List Stmt)(a n:Nat):List Stmt:=(l.drop a).take n
noncomputable def ik:List Stmt:=behindTheImports qP
noncomputable def cB:Code:= .body ik qg
noncomputable def AP:List Frame:= [topFrame ⟨0,0,0,0⟩]
noncomputable def sT (T:BT)(n k:Nat)(os:OsState):SharedT:=⟨T,n,{},⟨[]⟩,boot_drawn,k,os⟩
noncomputable def HT (P:Params):Heap:=absHeap (TF P) 947 {}
end
end Mine
namespace Mine
open PySem
noncomputable abbrev nH.c:=nH.cons
noncomputable abbrev nH.n:=nH.nil
noncomputable abbrev cA.c:=cA.cons
noncomputable abbrev cA.n:=cA.nil
noncomputable abbrev Bi.y:=Bi.bytes
noncomputable abbrev Bi.u:=Bi.tuple
noncomputable abbrev Bi.L:=Bi.list
noncomputable abbrev wA.s:=wA.sub
noncomputable abbrev SE.l:=SE.loc
noncomputable abbrev SE.i:=SE.int
noncomputable abbrev SE.t:=SE.attr
noncomputable abbrev SE.q:=SE.cmp
noncomputable abbrev SE.M:=SE.ez
noncomputable abbrev SE.B:=SE.bH
noncomputable abbrev SE.F:=SE.fT
noncomputable abbrev SE.C:=SE.callC
noncomputable abbrev SE.b:=SE.bin
noncomputable abbrev SE.s:=SE.sub
noncomputable abbrev SE.y:=SE.bytes
noncomputable abbrev SE.u:=SE.tuple
noncomputable abbrev SE.L:=SE.list
noncomputable abbrev ST.t:=ST.attr
noncomputable abbrev ST.m:=ST.name
noncomputable abbrev ST.s:=ST.sub
noncomputable abbrev SS.a:=SS.j3
noncomputable abbrev SS.f:=SS.ifs
noncomputable abbrev SS.r:=SS.ret
noncomputable abbrev SS.e:=SS.expr
noncomputable def b1:cA:=(.c (.f (.or (.c (.q .lt (.l 0) (.i 0)) (.c (.q .gt (.l 0) (.l 1)) .n))) (.c .bad .n) .n) (.c (.a (.m 2) (.B .bytearray .n)) (.c (.xB (.q .ge (.l 0) (.i 128)) (.c (.e (.M (.l 2) 1 (.c (.b .bor (.b .band (.l 0) (.i 127)) (.i 128)) .n))) (.c (.qh 0 .shr (.i 7)) .n))) (.c (.e (.M (.l 2) 1 (.c (.l 0) .n))) (.c (.r (.B .y (.c (.l 2) .n))) .n)))))
noncomputable def b2:cA:=(.c (.f (.q .lt (.l 1) (.i 0)) (.c .bad .n) .n) (.c (.a (.m 4) (.i 0)) (.c (.a (.m 5) (.i 0)) (.c (.jd [6] (.B .range (.c (.l 2) .n)) (.c (.f (.q .ge (.l 1) (.B .len (.c (.l 0) .n))) (.c (.raise 3 .text) .n) .n) (.c (.a (.m 7) (.s (.l 0) (.l 1))) (.c (.qh 1 .add (.i 1)) (.c (.qh 4 .bor (.b .shl (.b .band (.l 7) (.i 127)) (.l 5))) (.c (.f (.q .lt (.l 7) (.i 128)) (.c (.f (.q .gt (.l 4) (.l 3)) (.c .bad .n) .n) (.c (.r (.u (.c (.l 4) (.c (.l 1) .n)))) .n)) .n) (.c (.qh 5 .add (.i 7)) .n))))))) (.c .bad .n)))))
noncomputable def b3:cA:=(.c (.f (.and (.c (.q .ge (.l 0) (.i 0)) (.c (.q .lt (.l 0) (.i 128)) .n))) (.c (.r (.B .y (.c (.L (.c (.l 0) .n)) .n))) .n) .n) (.c (.r (.F 1 (.c (.l 0) (.c (.i 18446744073709551615) .n)))) .n))
noncomputable def b4:cA:=(.c (.f (.and (.c (.q .ge (.l 1) (.i 0)) (.c (.q .lt (.l 1) (.B .len (.c (.l 0) .n))) (.c (.q .lt (.s (.l 0) (.l 1)) (.i 128)) .n)))) (.c (.r (.u (.c (.s (.l 0) (.l 1)) (.c (.b .add (.l 1) (.i 1)) .n)))) .n) .n) (.c (.r (.F 2 (.c (.l 0) (.c (.l 1) (.c (.i 10) (.c (.i 18446744073709551615) .n)))))) .n))
noncomputable def b5:cA:=(.c (.f (.and (.c (.q .ge (.l 0) (.i 0)) (.c (.q .lt (.l 0) (.i 128)) .n))) (.c (.r (.B .y (.c (.L (.c (.l 0) .n)) .n))) .n) .n) (.c (.r (.F 1 (.c (.l 0) (.c (.i 4294967295) .n)))) .n))
noncomputable def b6:cA:=(.c (.f (.and (.c (.q .ge (.l 1) (.i 0)) (.c (.q .lt (.l 1) (.B .len (.c (.l 0) .n))) (.c (.q .lt (.s (.l 0) (.l 1)) (.i 128)) .n)))) (.c (.r (.u (.c (.s (.l 0) (.l 1)) (.c (.b .add (.l 1) (.i 1)) .n)))) .n) .n) (.c (.r (.F 2 (.c (.l 0) (.c (.l 1) (.c (.i 5) (.c (.i 4294967295) .n)))))) .n))
noncomputable def b7:cA:=(.c (.f (.or (.c (.q .lt (.l 0) (.i 0)) (.c (.q .gt (.l 0) (.i 18446744073709551615)) .n))) (.c .bad .n) .n) (.c (.a (.m 1) (.i 1)) (.c (.xB (.q .ge (.l 0) (.i 128)) (.c (.qh 0 .shr (.i 7)) (.c (.qh 1 .add (.i 1)) .n))) (.c (.r (.l 1)) .n))))
noncomputable def b8:cA:=(.c (.f (.or (.c (.q .lt (.l 0) (.i 0)) (.c (.q .gt (.l 0) (.i 4294967295)) .n))) (.c .bad .n) .n) (.c (.r (.B .y (.c (.L (.c (.b .band (.l 0) (.i 255)) (.c (.b .band (.b .shr (.l 0) (.i 8)) (.i 255)) (.c (.b .band (.b .shr (.l 0) (.i 16)) (.i 255)) (.c (.b .shr (.l 0) (.i 24)) .n))))) .n))) .n))
noncomputable def b9:cA:=(.c (.f (.or (.c (.q .lt (.l 0) (.i 0)) (.c (.q .gt (.l 0) (.i 18446744073709551615)) .n))) (.c .bad .n) .n) (.c (.r (.b .add (.F 8 (.c (.b .band (.l 0) (.i 4294967295)) .n)) (.F 8 (.c (.b .shr (.l 0) (.i 32)) .n)))) .n))
noncomputable def Zj:cA:=(.c (.a (.tup [2,1]) (.F 6 (.c (.l 0) (.c (.l 1) .n)))) (.c (.f (.q .gt (.b .add (.l 1) (.l 2)) (.B .len (.c (.l 0) .n))) (.c .bad .n) .n) (.c (.r (.u (.c (.B .y (.c (.slice (.l 0) (.l 1) (.b .add (.l 1) (.l 2))) .n)) (.c (.b .add (.l 1) (.l 2)) .n)))) .n)))
noncomputable def YI:cA:=(.c (.f (.or (.c (.q .lt (.l 2) (.i 0)) (.c (.q .gt (.l 2) (.B .len (.c (.l 1) .n))) .n))) (.c .bad .n) .n) (.c (.a (.t (.l 0) 15) (.l 1)) (.c (.a (.t (.l 0) 4) (.l 2)) .n)))
noncomputable def WN:cA:=(.c (.r (.b .s (.B .len (.c (.t (.l 0) 15) .n)) (.t (.l 0) 4))) .n)
noncomputable def XV:cA:=(.c (.a (.m 1) (.t (.l 0) 4)) (.c (.f (.and (.c (.q .lt (.l 1) (.B .len (.c (.t (.l 0) 15) .n))) (.c (.q .lt (.s (.t (.l 0) 15) (.l 1)) (.i 128)) .n))) (.c (.a (.t (.l 0) 4) (.b .add (.l 1) (.i 1))) (.c (.r (.s (.t (.l 0) 15) (.l 1))) .n)) .n) (.c (.a (.tup [2,1]) (.F 4 (.c (.t (.l 0) 15) (.c (.l 1) .n)))) (.c (.a (.t (.l 0) 4) (.l 1)) (.c (.r (.l 2)) .n)))))
noncomputable def Wv:cA:=(.c (.a (.tup [1,2]) (.F 12 (.c (.t (.l 0) 15) (.c (.t (.l 0) 4) .n)))) (.c (.a (.t (.l 0) 4) (.l 2)) (.c (.r (.l 1)) .n)))
noncomputable def Xn:cA:=(.c (.f (.q .ge (.t (.l 0) 4) (.B .len (.c (.t (.l 0) 15) .n))) (.c (.raise 3 .text) .n) .n) (.c (.a (.m 1) (.s (.t (.l 0) 15) (.t (.l 0) 4))) (.c (.f (.q .gt (.l 1) (.i 1)) (.c .bad .n) .n) (.c (.sK (.l 0) 4 .add (.i 1)) (.c (.r (.q .eq (.l 1) (.i 1))) .n)))))
noncomputable def Xc:cA:=(.c (.f (.q .lt (.t (.l 0) 4) (.B .len (.c (.t (.l 0) 15) .n))) (.c (.raise 2 (.zU (.M (.l 0) 36 .n))) .n) .n) .n)
noncomputable def XT:cA:=(.c (.a (.t (.l 0) 45) (.B .bytearray .n)) .n)
noncomputable def Wz:cA:=(.c (.f (.and (.c (.q .ge (.l 1) (.i 0)) (.c (.q .lt (.l 1) (.i 128)) .n))) (.c (.e (.M (.t (.l 0) 45) 1 (.c (.l 1) .n))) .n) (.c (.e (.M (.t (.l 0) 45) 23 (.c (.F 3 (.c (.l 1) .n)) .n))) .n)) .n)
noncomputable def Yd:cA:=(.c (.e (.M (.t (.l 0) 45) 23 (.c (.F 5 (.c (.B .len (.c (.l 1) .n)) .n)) .n))) (.c (.e (.M (.t (.l 0) 45) 23 (.c (.l 1) .n))) .n))
noncomputable def X9:cA:=(.c (.f (.or (.c (.q .lt (.l 1) (.i 0)) (.c (.q .gt (.l 1) (.i 255)) .n))) (.c .bad .n) .n) (.c (.e (.M (.t (.l 0) 45) 1 (.c (.l 1) .n))) .n))
noncomputable def Yj:cA:=(.c (.f (.l 1) (.c (.e (.M (.t (.l 0) 45) 1 (.c (.i 1) .n))) .n) (.c (.e (.M (.t (.l 0) 45) 1 (.c (.i 0) .n))) .n)) .n)
noncomputable def Y6:cA:=(.c (.r (.B .y (.c (.t (.l 0) 45) .n))) .n)
noncomputable def XM:cA:=(.c (.a (.t (.l 0) 51) (.L .n)) (.c (.a (.t (.l 0) 66) (.i 12)) .n))
noncomputable def Wf:cA:=(.c (.e (.M (.l 0) 61 (.c (.i 1) (.c (.B .y (.c (.l 1) .n)) (.c (.B .y (.c (.l 2) .n)) .n))))) .n)
noncomputable def V0:cA:=(.c (.e (.M (.l 0) 61 (.c (.i 0) (.c (.B .y (.c (.l 1) .n)) (.c (.y []) .n))))) .n)
noncomputable def Ye:cA:=(.c (.sK (.l 0) 66 .add (.b .add (.b .add (.i 1) (.F 7 (.c (.B .len (.c (.l 2) .n)) .n))) (.B .len (.c (.l 2) .n)))) (.c (.f (.q .eq (.l 1) (.i 1)) (.c (.sK (.l 0) 66 .add (.b .add (.F 7 (.c (.B .len (.c (.l 3) .n)) .n)) (.B .len (.c (.l 3) .n)))) .n) .n) (.c (.e (.M (.t (.l 0) 51) 1 (.c (.u (.c (.l 1) (.c (.l 2) (.c (.l 3) .n)))) .n))) .n)))
noncomputable def Zi:cA:=(.c (.r (.B .len (.c (.t (.l 0) 51) .n))) .n)
noncomputable def Y0:cA:=(.c (.jd [2,3,4] (.M (.l 1) 43 .n) (.c (.e (.M (.l 0) 61 (.c (.l 2) (.c (.l 3) (.c (.l 4) .n))))) .n)) .n)
noncomputable def WG:cA:=(.c (.r (.B .L (.c (.t (.l 0) 51) .n))) .n)
noncomputable def WL:cA:=(.c (.a (.m 1) (.L .n)) (.c (.jd [2] (.B .sorted (.c (.l 0) .n)) (.c (.f (.or (.c (.not (.l 1)) (.c (.q .ne (.s (.l 1) (.neg (.i 1))) (.l 2)) .n))) (.c (.e (.M (.l 1) 1 (.c (.l 2) .n))) .n) .n) .n)) (.c (.r (.l 1)) .n)))
noncomputable def Yw:cA:=(.c (.a (.m 1) (.M (.l 0) 64 .n)) (.c (.f (.q .gt (.l 1) (.M (.l 0) 36 .n)) (.c .bad .n) .n) (.c (.r (.l 1)) .n)))
noncomputable def Yl:cA:=(.c (.a (.t (.l 0) 62) (.l 1)) (.c (.a (.t (.l 0) 28) (.l 2)) (.c (.a (.t (.l 0) 32) (.l 3)) (.c (.a (.t (.l 0) 15) (.l 4)) .n))))
noncomputable def XB:cA:=(.c (.a (.t (.l 0) 65) (.F 43 (.c (.l 1) .n))) (.c (.a (.t (.l 0) 34) (.F 43 (.c (.l 2) .n))) (.c (.a (.t (.l 0) 44) (.F 43 (.c (.l 3) .n))) (.c (.a (.t (.l 0) 35) (.F 43 (.c (.l 4) .n))) (.c (.a (.t (.l 0) 5) (.l 5)) .n)))))
noncomputable def V6:cA:=(.c (.r (.u (.c (.B .u (.c (.t (.l 0) 65) .n)) (.c (.B .u (.c (.t (.l 0) 34) .n)) (.c (.B .u (.c (.t (.l 0) 44) .n)) (.c (.B .u (.c (.t (.l 0) 35) .n)) (.c (.t (.l 0) 5) .n))))))) .n)
noncomputable def VY:cA:=(.c (.e (.M (.l 0) 64 (.c (.B .len (.c (.l 1) .n)) .n))) (.c (.jd [2] (.l 1) (.c (.e (.M (.l 0) 64 (.c (.l 2) .n))) .n)) .n))
noncomputable def YV:cA:=(.c (.a (.m 1) (.L .n)) (.c (.jd [2] (.B .range (.c (.F 44 (.c (.l 0) .n)) .n)) (.c (.a (.m 3) (.M (.l 0) 64 .n)) (.c (.f (.and (.c (.l 1) (.c (.q .le (.l 3) (.s (.l 1) (.neg (.i 1)))) .n))) (.c .bad .n) .n) (.c (.e (.M (.l 1) 1 (.c (.l 3) .n))) .n)))) (.c (.r (.l 1)) .n)))
noncomputable def Wr:cA:=(.c (.a (.m 1) (.C 10 .n)) (.c (.e (.F 53 (.c (.l 1) (.c (.t (.l 0) 65) .n)))) (.c (.e (.F 53 (.c (.l 1) (.c (.t (.l 0) 34) .n)))) (.c (.e (.F 53 (.c (.l 1) (.c (.t (.l 0) 44) .n)))) (.c (.e (.F 53 (.c (.l 1) (.c (.t (.l 0) 35) .n)))) (.c (.e (.M (.l 1) 26 (.c (.t (.l 0) 5) .n))) (.c (.r (.M (.l 1) 19 .n)) .n)))))))
noncomputable def WH:cA:=(.c (.a (.m 1) (.C 9 (.c (.l 0) .n))) (.c (.a (.m 2) (.F 54 (.c (.l 1) .n))) (.c (.a (.m 3) (.F 54 (.c (.l 1) .n))) (.c (.a (.m 4) (.F 54 (.c (.l 1) .n))) (.c (.a (.m 5) (.F 54 (.c (.l 1) .n))) (.c (.a (.m 6) (.M (.l 1) 26 .n)) (.c (.e (.M (.l 1) 19 .n)) (.c (.r (.C 13 (.c (.l 2) (.c (.l 3) (.c (.l 4) (.c (.l 5) (.c (.l 6) .n))))))) .n))))))))
noncomputable def XS:cA:=(.c (.a (.t (.l 0) 32) (.l 1)) (.c (.a (.t (.l 0) 9) (.l 2)) (.c (.a (.t (.l 0) 41) (.l 3)) (.c (.a (.t (.l 0) 31) (.l 4)) (.c (.a (.t (.l 0) 63) (.l 5)) (.c (.a (.t (.l 0) 22) (.l 6)) .n))))))
noncomputable def YP:cA:=(.c (.f (.or (.c (.q .lt (.t (.l 0) 32) (.i 0)) (.c (.q .gt (.t (.l 0) 32) (.i 6)) .n))) (.c (.raise 7 (.xK (.t (.l 0) 32))) .n) .n) (.c (.a (.m 1) (.C 10 .n)) (.c (.lM (.c (.e (.M (.l 1) 64 (.c (.t (.l 0) 32) .n))) (.c (.e (.M (.l 1) 64 (.c (.t (.l 0) 9) .n))) (.c (.e (.M (.l 1) 64 (.c (.t (.l 0) 41) .n))) (.c (.e (.M (.l 1) 37 (.c (.t (.l 0) 31) .n))) (.c (.e (.M (.l 1) 37 (.c (.t (.l 0) 63) .n))) (.c (.e (.F 60 (.c (.l 1) (.c (.t (.l 0) 22) .n)))) .n)))))) 4 (.raise 7)) (.c (.r (.M (.l 1) 19 .n)) .n))))
noncomputable def YH:cA:=(.c (.e (.M (.l 0) 26 (.c (.q .gm (.l 1) .none) .n))) (.c (.f (.q .gm (.l 1) .none) (.c (.e (.M (.l 0) 37 (.c (.l 1) .n))) .n) .n) .n))
noncomputable def Wp:cA:=(.c (.f (.M (.l 0) 26 .n) (.c (.r (.M (.l 0) 37 .n)) .n) .n) (.c (.r .none) .n))
noncomputable def YA:cA:=(.c (.lM (.c (.a (.m 1) (.C 9 (.c (.l 0) .n))) (.c (.a (.m 2) (.M (.l 1) 64 .n)) (.c (.a (.m 3) (.M (.l 1) 64 .n)) (.c (.a (.m 4) (.M (.l 1) 64 .n)) (.c (.a (.m 5) (.M (.l 1) 37 .n)) (.c (.a (.m 6) (.M (.l 1) 37 .n)) (.c (.a (.m 7) (.F 61 (.c (.l 1) .n))) (.c (.e (.M (.l 1) 19 .n)) .n)))))))) 2 (.raise 7)) (.c (.f (.q .gt (.l 2) (.i 6)) (.c (.raise 7 (.xK (.l 2))) .n) .n) (.c (.r (.C 14 (.c (.l 2) (.c (.l 3) (.c (.l 4) (.c (.l 5) (.c (.l 6) (.c (.l 7) .n)))))))) .n)))
noncomputable def XI:cA:=(.c (.a (.m 2) (.C 10 .n)) (.c (.e (.M (.l 2) 42 (.c (.l 0) .n))) (.c (.e (.F 60 (.c (.l 2) (.c (.l 1) .n)))) (.c (.r (.M (.l 2) 19 .n)) .n))))
noncomputable def Wa:cA:=(.c (.r (.b .add (.y [100]) (.l 0))) .n)
noncomputable def W4:cA:=(.c (.a (.m 1) (.F 9 (.c (.l 0) .n))) (.c (.r (.b .add (.y [115]) (.B .y (.c (.L (.c (.s (.l 1) (.i 7)) (.c (.s (.l 1) (.i 6)) (.c (.s (.l 1) (.i 5)) (.c (.s (.l 1) (.i 4)) (.c (.s (.l 1) (.i 3)) (.c (.s (.l 1) (.i 2)) (.c (.s (.l 1) (.i 1)) (.c (.s (.l 1) (.i 0)) .n))))))))) .n)))) .n))
noncomputable def We:cA:=(.c (.a (.m 1) (.i 0)) (.c (.jd [2] (.slice (.l 0) (.B .len (.c (.y [115]) .n)) .none) (.c (.a (.m 1) (.b .bor (.b .shl (.l 1) (.i 8)) (.l 2))) .n)) (.c (.r (.l 1)) .n)))
noncomputable def W5:cA:=(.c (.a (.m 3) (.C 10 .n)) (.c (.e (.M (.l 3) 64 (.c (.l 0) .n))) (.c (.e (.M (.l 3) 26 (.c (.l 1) .n))) (.c (.e (.M (.l 3) 37 (.c (.l 2) .n))) (.c (.r (.M (.l 3) 19 .n)) .n)))))
noncomputable def WU:cA:=(.c (.a (.m 1) (.C 9 (.c (.l 0) .n))) (.c (.a (.m 2) (.M (.l 1) 64 .n)) (.c (.a (.m 3) (.M (.l 1) 26 .n)) (.c (.a (.m 4) (.M (.l 1) 37 .n)) (.c (.e (.M (.l 1) 19 .n)) (.c (.r (.u (.c (.l 2) (.c (.l 3) (.c (.l 4) .n))))) .n))))))
noncomputable def WP:cA:=(.c (.a (.t (.l 0) 57) (.l 1)) (.c (.a (.t (.l 0) 2) (.i 0)) (.c (.a (.t (.l 0) 62) (.i 0)) (.c (.a (.t (.l 0) 11) (.y [])) (.c (.a (.t (.l 0) 20) (.i 0)) (.c (.a (.t (.l 0) 59) (.bool false)) .n))))))
noncomputable def UV:cA:=(.c (.a (.m 1) (.M (.t (.l 0) 57) 27 (.c (.y [97]) .n))) (.c (.f (.q .is (.l 1) .none) (.c (.a (.m 2) (.i 0)) (.c (.a (.m 3) (.i 0)) (.c (.a (.m 4) (.y [])) .n))) (.c (.a (.m 5) (.C 9 (.c (.l 1) .n))) (.c (.a (.m 2) (.M (.l 5) 64 .n)) (.c (.a (.m 3) (.M (.l 5) 64 .n)) (.c (.a (.m 4) (.M (.l 5) 37 .n)) (.c (.e (.M (.l 5) 19 .n)) .n)))))) (.c (.a (.m 6) .none) (.c (.f (.q .ne (.l 4) (.y [])) (.c (.a (.m 6) (.F 56 (.c (.l 4) .n))) .n) .n) (.c (.a (.t (.l 0) 2) (.l 2)) (.c (.a (.t (.l 0) 62) (.l 3)) (.c (.a (.t (.l 0) 11) (.l 4)) (.c (.a (.t (.l 0) 20) (.B .min (.c (.t (.l 0) 20) (.c (.l 2) .n)))) (.c (.e (.M (.l 0) 39 .n)) (.c (.r (.u (.c (.l 2) (.c (.l 3) (.c (.l 6) .n))))) .n))))))))))
noncomputable def WD:cA:=(.c (.f (.M (.t (.l 0) 57) 29 .n) (.c (.a (.t (.l 0) 20) (.t (.l 0) 2)) .n) .n) .n)
noncomputable def WX:cA:=(.c (.a (.m 5) (.C 10 .n)) (.c (.e (.M (.l 5) 64 (.c (.l 2) .n))) (.c (.e (.M (.l 5) 64 (.c (.l 3) .n))) (.c (.e (.M (.l 5) 37 (.c (.l 4) .n))) (.c (.e (.M (.l 1) 47 (.c (.y [97]) (.c (.M (.l 5) 19 .n) .n)))) .n)))))
noncomputable def Ws:cA:=(.c (.f (.q .gm (.M (.t (.l 0) 57) 27 (.c (.y [97]) .n)) .none) (.c (.raise 8 .text) .n) .n) (.c (.a (.m 4) (.C 11 .n)) (.c (.a (.m 5) (.F 55 (.c (.l 3) .n))) (.c (.e (.M (.l 0) 48 (.c (.l 4) (.c (.l 1) (.c (.l 2) (.c (.l 5) .n)))))) (.c (.e (.M (.t (.l 0) 57) 67 (.c (.l 4) (.c (.bool true) .n)))) (.c (.a (.t (.l 0) 2) (.l 1)) (.c (.a (.t (.l 0) 62) (.l 2)) (.c (.a (.t (.l 0) 11) (.l 5)) (.c (.e (.M (.l 0) 39 .n)) .n)))))))))
noncomputable def HN:cA:=(.c (.f (.q .ne (.t (.l 1) 28) (.b .add (.t (.l 0) 2) (.i 1))) (.c (.raise 8 (.AH (.c (.t (.l 1) 28) (.c (.t (.l 0) 2) .n)))) .n) .n) (.c (.a (.m 3) (.t (.l 0) 11)) (.c (.f (.q .gm (.l 2) .none) (.c (.a (.m 3) (.F 55 (.c (.l 2) .n))) .n) .n) (.c (.a (.m 4) (.C 11 .n)) (.c (.a (.m 5) .none) (.c (.a (.m 6) (.M (.l 0) 10 (.c (.l 1) .n))) (.c (.f (.q .gm (.l 6) .none) (.c (.a (.m 5) (.M (.l 0) 17 (.c (.l 6) (.c (.l 4) .n)))) .n) .n) (.c (.e (.M (.l 0) 48 (.c (.l 4) (.c (.t (.l 1) 28) (.c (.t (.l 1) 62) (.c (.l 3) .n)))))) (.c (.e (.M (.t (.l 0) 57) 67 (.c (.l 4) (.c (.t (.l 0) 59) .n)))) (.c (.a (.t (.l 0) 2) (.t (.l 1) 28)) (.c (.a (.t (.l 0) 62) (.t (.l 1) 62)) (.c (.a (.t (.l 0) 11) (.l 3)) (.c (.f (.t (.l 0) 59) (.c (.e (.M (.l 0) 39 .n)) .n) .n) (.c (.r (.l 5)) .n))))))))))))))
noncomputable def WR:cA:=(.c (.f (.or (.c (.q .eq (.t (.l 1) 32) (.i 2)) (.c (.q .eq (.B .len (.c (.t (.l 1) 15) .n)) (.i 0)) .n))) (.c (.r .none) .n) .n) (.c (.lM (.c (.r (.F 62 (.c (.t (.l 1) 15) .n))) .n) 7 .jN) .n))
noncomputable def Mz:cA:=(.c (.a (.tup [3,4,5]) (.M (.l 0) 54 (.c (.t (.l 1) 9) .n))) (.c (.f (.q .eq (.t (.l 1) 41) (.l 3)) (.c (.r (.l 5)) .n) .n) (.c (.f (.q .lt (.t (.l 1) 41) (.l 3)) (.c (.r (.F 63 (.c (.i 3) (.c .none .n)))) .n) .n) (.c (.f (.and (.c (.not (.l 4)) (.c (.q .ne (.t (.l 1) 32) (.i 5)) .n))) (.c (.r (.F 63 (.c (.i 2) (.c .none .n)))) .n) .n) (.c (.a (.m 5) (.M (.l 0) 18 (.c (.l 1) (.c (.l 2) .n)))) (.c (.a (.m 6) (.F 67 (.c (.t (.l 1) 41) (.c (.q .ne (.t (.l 1) 32) (.i 6)) (.c (.l 5) .n))))) (.c (.e (.M (.l 2) 47 (.c (.F 65 (.c (.t (.l 1) 9) .n)) (.c (.l 6) .n)))) (.c (.r (.l 5)) .n))))))))
noncomputable def Rg:cA:=(.c (.a (.m 3) (.t (.l 1) 32)) (.c (.f (.or (.c (.q .eq (.l 3) (.i 0)) (.c (.q .eq (.l 3) (.i 5)) (.c (.q .eq (.l 3) (.i 6)) .n)))) (.c (.r (.F 63 (.c (.i 0) (.c .none .n)))) .n) .n) (.c (.a (.m 4) (.F 64 (.c (.t (.l 1) 31) .n))) (.c (.a (.m 5) (.M (.t (.l 0) 57) 27 (.c (.l 4) .n))) (.c (.f (.q .eq (.l 3) (.i 1)) (.c (.e (.M (.l 2) 47 (.c (.l 4) (.c (.t (.l 1) 63) .n)))) .n) (.c (.f (.q .eq (.l 3) (.i 2)) (.c (.f (.q .gm (.l 5) .none) (.c (.e (.M (.l 2) 16 (.c (.l 4) .n))) .n) .n) .n) (.c (.f (.q .eq (.l 3) (.i 3)) (.c (.f (.not (.F 84 (.c (.l 5) (.c (.t (.l 1) 22) .n)))) (.c (.r (.F 63 (.c (.i 1) (.c (.l 5) .n)))) .n) .n) (.c (.e (.M (.l 2) 47 (.c (.l 4) (.c (.t (.l 1) 63) .n)))) .n)) (.c (.f (.q .is (.l 5) .none) (.c (.e (.M (.l 2) 47 (.c (.l 4) (.c (.t (.l 1) 63) .n)))) .n) (.c (.e (.M (.l 2) 47 (.c (.l 4) (.c (.b .add (.l 5) (.t (.l 1) 63)) .n)))) .n)) .n)) .n)) .n)) (.c (.r (.F 63 (.c (.i 0) (.c (.l 5) .n)))) .n))))))
noncomputable def Yv:cA:=(.c (.r (.M (.t (.l 0) 57) 27 (.c (.F 64 (.c (.l 1) .n)) .n))) .n)
noncomputable def Yh:cA:=(.c (.a (.m 2) (.M (.t (.l 0) 57) 27 (.c (.F 65 (.c (.l 1) .n)) .n))) (.c (.f (.q .is (.l 2) .none) (.c (.r (.u (.c (.neg (.i 1)) (.c (.bool false) (.c (.y []) .n))))) .n) .n) (.c (.r (.F 68 (.c (.l 2) .n))) .n)))
noncomputable def Ze:cA:=(.c (.a (.tup [2,3,4]) (.M (.l 0) 54 (.c (.l 1) .n))) (.c (.f (.not (.l 3)) (.c (.r .none) .n) .n) (.c (.r (.u (.c (.l 2) (.c (.l 4) .n)))) .n)))
noncomputable def Y4:cA:=(.c (.a (.m 1) (.L .n)) (.c (.jd [2,3] (.M (.t (.l 0) 57) 52 (.c (.y [100]) (.c (.y [101]) (.c .none .n)))) (.c (.e (.M (.l 1) 1 (.c (.u (.c (.slice (.l 2) (.B .len (.c (.y [100]) .n)) .none) (.c (.l 3) .n))) .n))) .n)) (.c (.r (.l 1)) .n)))
noncomputable def VX:cA:=(.c (.a (.m 1) (.L .n)) (.c (.jd [2,3] (.M (.t (.l 0) 57) 52 (.c (.y [115]) (.c (.y [116]) (.c .none .n)))) (.c (.a (.tup [4,5,6]) (.F 68 (.c (.l 3) .n))) (.c (.e (.M (.l 1) 1 (.c (.u (.c (.F 66 (.c (.l 2) .n)) (.c (.l 4) (.c (.l 5) (.c (.l 6) .n))))) .n))) .n))) (.c (.r (.l 1)) .n)))
noncomputable def Ym:cA:=(.c (.r (.u (.c (.t (.l 0) 2) (.c (.t (.l 0) 62) (.c (.t (.l 0) 11) (.c (.B .u (.c (.M (.l 0) 51 .n) .n)) (.c (.B .u (.c (.M (.l 0) 55 .n) .n)) .n))))))) .n)
noncomputable def YW:cA:=(.c (.f (.or (.c (.q .is (.l 0) .none) (.c (.q .is (.l 1) .none) .n))) (.c (.r (.and (.c (.q .is (.l 0) .none) (.c (.q .is (.l 1) .none) .n)))) .n) .n) (.c (.r (.q .eq (.l 0) (.l 1))) .n))
noncomputable def Yx:cA:=(.c (.a (.t (.l 0) 40) .aM) (.c (.a (.t (.l 0) 6) (.L .n)) (.c (.a (.t (.l 0) 30) (.i 0)) (.c (.a (.t (.l 0) 33) (.i 0)) .n))))
noncomputable def Ur:cA:=(.c (.f (.q .eq (.M (.l 1) 13 .n) (.i 0)) (.c (.raise 5 .text) .n) .n) (.c (.e (.M (.l 0) 60 (.c (.M (.l 1) 43 .n) .n))) (.c (.f (.l 2) (.c (.e (.M (.l 0) 58 .n)) .n) .n) (.c (.r (.t (.l 0) 33)) .n))))
noncomputable def XF:cA:=(.c (.jd [2,3,4] (.l 1) (.c (.f (.q .eq (.l 2) (.i 1)) (.c (.a (.s (.t (.l 0) 40) (.l 3)) (.l 4)) .n) (.c (.f (.q .isIn (.l 3) (.t (.l 0) 40)) (.c (.del (.t (.l 0) 40) (.l 3)) .n) .n) .n)) .n)) (.c (.e (.M (.t (.l 0) 6) 1 (.c (.l 1) .n))) (.c (.sK (.l 0) 33 .add (.B .len (.c (.l 1) .n))) .n)))
noncomputable def Xt:cA:=(.c (.a (.t (.l 0) 30) (.B .len (.c (.t (.l 0) 6) .n))) .n)
noncomputable def Yb:cA:=(.c (.r (.q .eq (.t (.l 0) 30) (.B .len (.c (.t (.l 0) 6) .n)))) .n)
noncomputable def Yz:cA:=(.c (.r (.M (.t (.l 0) 40) 27 (.c (.l 1) .n))) .n)
noncomputable def V3:cA:=(.c (.f (.q .gm (.l 3) .none) (.c (.raise 4 .text) .n) .n) (.c (.a (.m 4) (.L .n)) (.c (.jd [5] (.B .sorted (.c (.t (.l 0) 40) .n)) (.c (.f (.and (.c (.q .gm (.l 1) .none) (.c (.q .lt (.l 5) (.l 1)) .n))) (.c .cont .n) .n) (.c (.f (.and (.c (.q .gm (.l 2) .none) (.c (.q .ge (.l 5) (.l 2)) .n))) (.c .cont .n) .n) (.c (.e (.M (.l 4) 1 (.c (.u (.c (.l 5) (.c (.s (.t (.l 0) 40) (.l 5)) .n))) .n))) .n)))) (.c (.r (.l 4)) .n))))
noncomputable def WQ:cA:=(.c (.a (.m 2) (.b .add (.t (.l 0) 30) (.b .mod (.l 1) (.b .add (.b .s (.B .len (.c (.t (.l 0) 6) .n)) (.t (.l 0) 30)) (.i 1))))) (.c (.a (.m 3) (.C 16 .n)) (.c (.jd [4] (.slice (.t (.l 0) 6) .none (.l 2)) (.c (.e (.M (.l 3) 60 (.c (.l 4) .n))) .n)) (.c (.e (.M (.l 3) 58 .n)) (.c (.r (.l 3)) .n)))))
noncomputable def Zg:cA:=(.c (.r (.L (.c (.i 5) (.c (.i 300) .n)))) .n)
noncomputable def W9:cA:=(.c (.r (.L (.c (.y []) (.c (.y [107]) .n)))) .n)
noncomputable def WB:cA:=(.c (.r (.L (.c (.i 4) (.c (.i 1) (.c (.i 3) (.c (.i 3) (.c (.i 2) (.c (.i 4) (.c (.i 6) (.c (.i 5) (.c (.i 0) (.c (.i 3) .n)))))))))))) .n)
noncomputable def XA:cA:=(.c (.r (.b .add (.s (.l 0) (.b .mod (.l 1) (.B .len (.c (.l 0) .n)))) (.b .mul (.i 31) (.b .fdiv (.l 1) (.B .len (.c (.l 0) .n)))))) .n)
noncomputable def Xr:cA:=(.c (.f (.q .lt (.l 0) (.i 128)) (.c (.r (.B .y (.c (.L (.c (.l 0) .n)) .n))) .n) .n) (.c (.r (.B .y (.c (.L (.c (.b .add (.b .mod (.l 0) (.i 128)) (.i 128)) (.c (.b .fdiv (.l 0) (.i 128)) .n))) .n))) .n))
noncomputable def YB:cA:=(.c (.f (.q .is (.l 0) .none) (.c (.r (.y [0])) .n) .n) (.c (.r (.b .add (.B .y (.c (.L (.c (.i 1) (.c (.B .len (.c (.l 0) .n)) .n))) .n)) (.l 0))) .n))
noncomputable def Rw:cA:=(.c (.a (.m 2) (.L .n)) (.c (.a (.m 3) (.L .n)) (.c (.a (.m 4) .aM) (.c (.a (.m 5) (.L (.c (.L .n) (.c (.L .n) .n)))) (.c (.a (.m 6) .aM) (.c (.a (.m 7) .aM) (.c (.jd [8,9,10,11,12] (.l 0) (.c (.a (.m 13) .none) (.c (.a (.m 14) (.i 1)) (.c (.f (.and (.c (.q .ge (.l 11) (.i 0)) (.c (.q .isIn (.l 11) (.l 6)) .n))) (.c (.a (.m 13) (.s (.l 6) (.l 11))) (.c (.f (.q .gt (.B .len (.c (.s (.l 5) (.s (.s (.l 1) (.l 11)) (.i 0))) .n)) (.s (.l 7) (.l 11))) (.c (.a (.m 13) (.y [3,0])) .n) .n) .n)) (.c (.f (.q .ge (.l 11) (.i 0)) (.c (.a (.tup [15,16,17,18,19,20]) (.s (.l 1) (.l 11))) (.c (.a (.m 21) (.s (.l 5) (.l 15))) (.c (.f (.and (.c (.q .ne (.l 17) (.i 5)) (.c (.or (.c (.q .eq (.B .len (.c (.l 21) .n)) (.i 0)) (.c (.q .eq (.s (.s (.l 1) (.s (.l 21) (.neg (.i 1)))) (.i 2)) (.i 6)) .n))) .n))) (.c (.a (.m 13) (.y [2,0])) .n) (.c (.a (.m 22) .none) (.c (.a (.m 23) (.bool true)) (.c (.f (.and (.c (.q .gt (.l 17) (.i 0)) (.c (.q .lt (.l 17) (.i 5)) .n))) (.c (.a (.m 22) (.M (.l 4) 27 (.c (.l 18) .n))) (.c (.a (.m 23) (.or (.c (.q .ne (.l 17) (.i 3)) (.c (.q .eq (.l 22) (.l 20)) .n)))) (.c (.f (.q .eq (.l 17) (.i 2)) (.c (.f (.q .gm (.l 22) .none) (.c (.del (.l 4) (.l 18)) (.c (.a (.m 14) (.i 2)) .n)) .n) .n) (.c (.f (.l 23) (.c (.a (.m 14) (.i 2)) (.c (.f (.and (.c (.q .eq (.l 17) (.i 4)) (.c (.q .gm (.l 22) .none) .n))) (.c (.a (.s (.l 4) (.l 18)) (.b .add (.l 22) (.l 19))) .n) (.c (.a (.s (.l 4) (.l 18)) (.l 19)) .n)) .n)) .n) .n)) .n))) .n) (.c (.a (.m 13) (.b .add (.B .y (.c (.L (.c (.ite (.l 23) (.i 0) (.i 1)) .n)) .n)) (.F 98 (.c (.l 22) .n)))) (.c (.e (.M (.l 21) 1 (.c (.l 11) .n))) (.c (.qh 14 .add (.i 1)) .n))))))) (.c (.a (.s (.l 6) (.l 11)) (.l 13)) (.c (.a (.s (.l 7) (.l 11)) (.B .len (.c (.l 21) .n))) .n))))) .n) .n)) (.c (.e (.M (.l 2) 1 (.c (.l 13) .n))) (.c (.e (.M (.l 3) 1 (.c (.l 14) .n))) .n)))))) (.c (.r (.u (.c (.l 2) (.c (.l 3) (.c (.l 4) (.c (.l 5) (.c (.l 6) .n))))))) .n))))))))
noncomputable def Cv:cA:=(.c (.a (.tup [4,5,6,7,8]) (.F 99 (.c (.l 2) (.c (.l 3) .n)))) (.c (.a (.m 9) (.b .add (.b .add (.B .y (.c (.L (.c (.s (.s (.l 2) (.neg (.i 1))) (.i 1)) .n)) .n)) (.B .y (.c (.B .range (.c (.i 1) (.c (.b .add (.s (.s (.l 2) (.neg (.i 1))) (.i 1)) (.i 1)) .n))) .n))) (.y [0,0,0,0]))) (.c (.comp 11 1 (.pair (.l 1000) (.s (.l 6) (.l 1000))) .none (.B .sorted (.c (.l 6) .n))) (.c (.a (.m 12) (.L .n)) (.c (.a (.m 13) (.L (.c (.u (.c (.y [97]) (.c (.b .add (.b .add (.b .add (.F 97 (.c (.B .len (.c (.l 2) .n)) .n)) (.F 97 (.c (.s (.s (.l 2) (.neg (.i 1))) (.i 0)) .n))) (.B .y (.c (.L (.c (.B .len (.c (.l 9) .n)) .n)) .n))) (.l 9)) .n))) .n))) (.c (.kU 13 2 (.pair (.b .add (.y [100]) (.l 1000)) (.l 1001)) (.l 11)) (.c (.jd [14] (.B .range (.c (.i 2) .n)) (.c (.a (.m 15) (.s (.F 93 .n) (.l 14))) (.c (.a (.m 16) .none) (.c (.f (.q .gt (.B .len (.c (.s (.l 7) (.l 14)) .n)) (.i 0)) (.c (.a (.m 17) (.s (.s (.l 7) (.l 14)) (.neg (.i 1)))) (.c (.a (.m 18) (.s (.s (.l 3) (.l 17)) (.i 1))) (.c (.a (.m 19) (.q .ne (.s (.s (.l 3) (.l 17)) (.i 2)) (.i 6))) (.c (.e (.M (.l 12) 1 (.c (.u (.c (.l 15) (.c (.l 18) (.c (.l 19) (.c (.s (.l 8) (.l 17)) .n))))) .n))) (.c (.f (.l 19) (.c (.a (.m 16) (.u (.c (.l 18) (.c (.s (.l 8) (.l 17)) .n)))) .n) .n) (.c (.a (.m 20) (.b .add (.b .add (.F 97 (.c (.l 18) .n)) (.B .y (.c (.L (.c (.ite (.l 19) (.i 1) (.i 0)) (.c (.B .len (.c (.s (.l 8) (.l 17)) .n)) .n))) .n))) (.s (.l 8) (.l 17)))) (.c (.e (.M (.l 13) 1 (.c (.u (.c (.b .add (.y [115,0,0,0,0,0,0]) (.B .y (.c (.L (.c (.b .fdiv (.l 15) (.i 256)) (.c (.b .mod (.l 15) (.i 256)) .n))) .n))) (.c (.l 20) .n))) .n))) .n))))))) .n) (.c (.f (.q .ne (.M (.l 1) 53 (.c (.l 15) .n)) (.l 16)) (.c (.r (.bool false)) .n) .n) .n))))) (.c (.jd [10] (.F 94 .n) (.c (.f (.q .ne (.M (.l 1) 27 (.c (.l 10) .n)) (.M (.l 6) 27 (.c (.l 10) .n))) (.c (.r (.bool false)) .n) .n) .n)) (.c (.f (.or (.c (.q .ne (.M (.l 0) 52 (.c .none (.c .none (.c .none .n)))) (.l 13)) (.c (.q .ne (.t (.l 0) 33) (.B .sum (.c (.l 5) .n))) .n))) (.c (.r (.bool false)) .n) .n) (.c (.r (.q .eq (.M (.l 1) 50 .n) (.u (.c (.B .len (.c (.l 2) .n)) (.c (.s (.s (.l 2) (.neg (.i 1))) (.i 0)) (.c (.l 9) (.c (.B .u (.c (.l 11) .n)) (.c (.B .u (.c (.l 12) .n)) .n)))))))) .n))))))))))
noncomputable def un:cA:=(.c (.comp 2 1 (.one (.b .mod (.l 1000) (.i 999983))) .none (.slice (.l 0) .none (.i 7))) (.c (.f (.q .eq (.B .len (.c (.l 2) .n)) (.i 0)) (.c (.a (.m 2) (.L (.c (.i 8) .n))) .n) .n) (.c (.a (.m 3) (.F 96 (.c (.l 2) (.c (.i 0) .n)))) (.c (.a (.m 4) (.C 16 .n)) (.c (.a (.m 5) (.C 15 (.c (.l 4) .n))) (.c (.f (.or (.c (.q .ne (.M (.l 5) 50 .n) (.u (.c (.i 0) (.c (.i 0) (.c (.y []) (.c (.u .n) (.c (.u .n) .n))))))) (.c (.q .ne (.M (.l 5) 38 .n) (.u (.c (.i 0) (.c (.i 0) (.c .none .n))))) .n))) (.c (.r (.bool false)) .n) .n) (.c (.a (.t (.l 5) 59) (.q .eq (.b .mod (.l 3) (.i 3)) (.i 1))) (.c (.e (.M (.l 5) 7 (.c (.i 1) (.c (.i 1) (.c (.C 13 (.c (.L (.c (.i 1) .n)) (.c (.L .n) (.c (.L .n) (.c (.L .n) (.c (.bool false) .n)))))) .n))))) (.c (.a (.m 6) (.L (.c (.u (.c (.i 1) (.c (.i 1) (.c .none (.c (.neg (.i 1)) (.c .none .n)))))) .n))) (.c (.a (.m 7) (.L .n)) (.c (.a (.m 8) (.i 1)) (.c (.a (.m 9) (.i 0)) (.c (.jd [10] (.B .range (.c (.i 6) .n)) (.c (.a (.m 1) (.F 96 (.c (.l 2) (.c (.b .add (.i 1) (.l 10)) .n)))) (.c (.a (.m 11) (.b .mod (.l 1) (.i 8))) (.c (.a (.m 12) (.b .fdiv (.l 1) (.i 8))) (.c (.a (.m 13) (.b .mod (.l 12) (.i 2))) (.c (.comp 15 1 (.one (.l 1000)) (.some ((.s (.s (.l 7) (.l 1000)) (.i 0)),(.l 13))) (.B .range (.c (.B .len (.c (.l 7) .n)) .n))) (.c (.a (.m 16) (.B .len (.c (.l 6) .n))) (.c (.f (.or (.c (.q .eq (.l 10) (.i 0)) (.c (.and (.c (.q .eq (.l 11) (.i 0)) (.c (.q .eq (.l 9) (.i 1)) .n))) (.c (.and (.c (.q .eq (.B .len (.c (.l 15) .n)) (.i 0)) (.c (.or (.c (.q .eq (.l 11) (.i 3)) (.c (.q .eq (.l 11) (.i 4)) .n))) .n))) .n)))) (.c (.a (.m 11) (.i 5)) .n) .n) (.c (.f (.q .eq (.l 11) (.i 0)) (.c (.a (.m 9) (.i 1)) (.c (.a (.m 4) (.M (.l 4) 14 (.c (.l 12) .n))) (.c (.a (.m 8) (.b .add (.l 8) (.b .mod (.l 12) (.b .add (.b .s (.l 16) (.l 8)) (.i 1))))) (.c (.a (.m 17) (.C 15 (.c (.l 4) .n))) (.c (.a (.t (.l 17) 59) (.t (.l 5) 59)) (.c (.a (.m 5) (.l 17)) (.c (.a (.tup [18,19,20]) (.M (.l 5) 38 .n)) (.c (.a (.m 21) (.u (.c (.B .u (.c (.B .range (.c (.i 1) (.c (.b .add (.s (.s (.l 6) (.b .s (.l 8) (.i 1))) (.i 1)) (.i 1)) .n))) .n)) (.c (.u .n) (.c (.u .n) (.c (.u .n) (.c (.bool false) .n))))))) (.c (.f (.q .ne (.u (.c (.l 18) (.c (.l 19) (.c (.M (.l 20) 50 .n) (.c (.t (.l 5) 20) .n))))) (.u (.c (.l 8) (.c (.s (.s (.l 6) (.b .s (.l 8) (.i 1))) (.i 0)) (.c (.l 21) (.c (.l 8) .n)))))) (.c (.r (.bool false)) .n) .n) (.c (.a (.m 22) (.s (.F 99 (.c (.l 6) (.c (.l 7) .n))) (.i 0))) (.c (.jd [14] (.B .range (.c (.l 8) (.c (.l 16) .n))) (.c (.f (.q .ne (.M (.l 5) 3 (.c (.s (.s (.l 6) (.l 14)) (.i 2)) (.c (.s (.s (.l 6) (.l 14)) (.i 4)) .n))) (.s (.l 22) (.l 14))) (.c (.r (.bool false)) .n) .n) .n)) (.c (.f (.t (.l 5) 59) (.c (.a (.m 8) (.l 16)) .n) .n) .n)))))))))))) (.c (.f (.q .eq (.l 11) (.i 1)) (.c (.e (.M (.l 4) 58 .n)) (.c (.e (.M (.l 5) 39 .n)) (.c (.a (.m 8) (.l 16)) .n))) (.c (.f (.and (.c (.q .eq (.l 11) (.i 2)) (.c (.q .eq (.b .mod (.l 12) (.i 4)) (.i 3)) .n))) (.c (.jd [18] (.L (.c (.l 16) (.c (.b .add (.l 16) (.i 2)) .n))) (.c (.a (.m 23) (.bool false)) (.c (.lM (.c (.e (.M (.l 5) 3 (.c (.C 12 (.c (.i 9) (.c (.l 18) (.c (.i 0) (.c (.y []) .n))))) (.c (.C 13 (.c (.L (.c (.i 7) .n)) (.c (.L .n) (.c (.L .n) (.c (.L .n) (.c (.bool false) .n)))))) .n)))) .n) 8 (.setB 23 true)) (.c (.f (.not (.l 23)) (.c (.r (.bool false)) .n) .n) .n)))) .n) (.c (.a (.m 19) (.b .add (.s (.s (.l 6) (.neg (.i 1))) (.i 0)) (.b .mod (.l 1) (.i 2)))) (.c (.a (.m 21) (.s (.s (.l 6) (.neg (.i 1))) (.i 1))) (.c (.a (.m 20) .none) (.c (.a (.m 24) (.neg (.i 1))) (.c (.a (.m 25) (.i 0)) (.c (.f (.q .eq (.l 11) (.i 2)) (.c (.a (.m 26) (.y [])) (.c (.f (.q .eq (.b .mod (.l 12) (.i 4)) (.i 0)) (.c (.a (.m 25) (.i 2)) (.c (.a (.m 21) (.b .add (.i 1) (.b .mod (.b .fdiv (.l 12) (.i 4)) (.i 3)))) (.c (.a (.m 20) (.C 13 (.c (.B .L (.c (.B .range (.c (.i 1) (.c (.b .add (.l 21) (.i 1)) .n))) .n)) (.c (.L .n) (.c (.L .n) (.c (.L .n) (.c (.bool false) .n))))))) (.c (.a (.m 26) (.M (.C 14 (.c (.i 1) (.c (.i 5) (.c (.i 999) (.c (.y [107]) (.c (.y [33]) (.c .none .n))))))) 21 .n)) .n)))) (.c (.f (.q .eq (.b .mod (.l 12) (.i 4)) (.i 1)) (.c (.a (.m 26) (.b .add (.M (.C 14 (.c (.i 1) (.c (.i 5) (.c (.i 999) (.c (.y [107]) (.c (.y [33]) (.c .none .n))))))) 21 .n) (.y [0]))) .n) (.c (.f (.q .eq (.b .mod (.b .fdiv (.l 12) (.i 4)) (.i 2)) (.i 1)) (.c (.a (.m 26) (.b .add (.y [7]) (.slice (.M (.C 14 (.c (.i 1) (.c (.i 5) (.c (.i 999) (.c (.y [107]) (.c (.y [33]) (.c .none .n))))))) 21 .n) (.i 1) .none))) .n) .n) .n)) .n)) .n)) (.c (.f (.q .lt (.l 11) (.i 5)) (.c (.a (.m 24) (.s (.l 15) (.b .mod (.b .fdiv (.l 12) (.i 2)) (.B .len (.c (.l 15) .n))))) .n) (.c (.a (.m 24) (.B .len (.c (.l 7) .n))) (.c (.a (.m 27) (.i 126)) (.c (.f (.q .gt (.B .len (.c (.l 15) .n)) (.i 0)) (.c (.a (.m 27) (.b .add (.b .add (.s (.s (.l 7) (.s (.l 15) (.neg (.i 1)))) (.i 1)) (.i 1)) (.b .mod (.b .fdiv (.l 12) (.i 2)) (.i 2)))) .n) .n) (.c (.a (.tup [28,29]) (.slice (.F 99 (.c (.l 6) (.c (.l 7) .n))) (.i 2) (.i 4))) (.c (.a (.m 30) (.or (.c (.q .eq (.B .len (.c (.s (.l 29) (.l 13)) .n)) (.i 0)) (.c (.q .eq (.s (.s (.l 7) (.s (.s (.l 29) (.l 13)) (.neg (.i 1)))) (.i 2)) (.i 6)) .n)))) (.c (.a (.m 31) (.i 5)) (.c (.f (.or (.c (.not (.l 30)) (.c (.q .eq (.b .mod (.b .fdiv (.l 12) (.i 4)) (.i 4)) (.i 3)) .n))) (.c (.a (.m 31) (.s (.F 95 .n) (.b .mod (.b .fdiv (.l 12) (.i 4)) (.i 10)))) .n) .n) (.c (.a (.m 32) (.s (.F 94 .n) (.b .mod (.b .fdiv (.l 12) (.i 40)) (.i 2)))) (.c (.a (.m 33) (.s (.L (.c (.M (.l 28) 27 (.c (.l 32) .n)) (.c .none (.c (.y [120]) .n)))) (.b .mod (.b .fdiv (.l 12) (.i 80)) (.i 3)))) (.c (.e (.M (.l 7) 1 (.c (.u (.c (.l 13) (.c (.l 27) (.c (.l 31) (.c (.l 32) (.c (.B .y (.c (.L (.c (.b .add (.i 97) (.l 24)) .n)) .n)) (.c (.l 33) .n))))))) .n))) .n))))))))))) (.c (.a (.tup [13,27,31,32,34,33]) (.s (.l 7) (.l 24))) (.c (.a (.m 26) (.M (.C 14 (.c (.l 31) (.c (.s (.F 93 .n) (.l 13)) (.c (.l 27) (.c (.l 32) (.c (.l 34) (.c (.l 33) .n))))))) 21 .n)) .n)))) (.c (.a (.m 35) (.C 12 (.c (.l 19) (.c (.b .add (.l 16) (.i 1)) (.c (.l 25) (.c (.l 26) .n)))))) (.c (.e (.M (.l 6) 1 (.c (.u (.c (.l 19) (.c (.l 21) (.c (.l 35) (.c (.l 24) (.c (.l 20) .n)))))) .n))) (.c (.f (.q .ne (.M (.l 5) 3 (.c (.l 35) (.c (.l 20) .n))) (.s (.s (.F 99 (.c (.l 6) (.c (.l 7) .n))) (.i 0)) (.neg (.i 1)))) (.c (.r (.bool false)) .n) .n) (.c (.f (.t (.l 5) 59) (.c (.a (.m 8) (.b .add (.l 16) (.i 1))) .n) .n) .n))))))))))) .n)) .n)) (.c (.f (.q .ne (.u (.c (.t (.l 5) 2) (.c (.t (.l 5) 62) (.c (.t (.l 5) 20) .n)))) (.u (.c (.B .len (.c (.l 6) .n)) (.c (.s (.s (.l 6) (.neg (.i 1))) (.i 0)) (.c (.l 8) .n))))) (.c (.r (.bool false)) .n) .n) .n)))))))))) (.c (.a (.m 36) (.M (.l 4) 29 .n)) (.c (.a (.m 37) (.i 0)) (.c (.lM (.c (.e (.M (.l 5) 7 (.c (.i 7) (.c (.i 7) (.c (.C 13 (.c (.L (.c (.i 7) .n)) (.c (.L .n) (.c (.L .n) (.c (.L .n) (.c (.bool false) .n)))))) .n))))) .n) 8 (.inc 37 1)) (.c (.lM (.c (.e (.M (.l 4) 67 (.c (.C 11 .n) (.c (.bool true) .n)))) .n) 5 (.inc 37 1)) (.c (.lM (.c (.e (.M (.l 4) 52 (.c .none (.c .none (.c (.i 1) .n))))) .n) 4 (.inc 37 1)) (.c (.f (.or (.c (.q .ne (.l 37) (.i 3)) (.c (.q .ne (.l 36) (.q .eq (.l 8) (.B .len (.c (.l 6) .n)))) (.c (.q .ne (.M (.l 4) 29 .n) (.l 36)) .n)))) (.c (.r (.bool false)) .n) .n) (.c (.r (.F 100 (.c (.l 4) (.c (.l 5) (.c (.l 6) (.c (.l 7) .n)))))) .n))))))))))))))))))))
noncomputable def wv:List Fn:= [⟨"",1, [],1,false,(.cons .bad .nil)⟩,
 ⟨"",2, [],3,false,b1⟩,
 ⟨"",4, [],8,false,b2⟩,
 ⟨"",1, [],1,false,b3⟩,
 ⟨"",2, [],2,false,b4⟩,
 ⟨"",1, [],1,false,b5⟩,
 ⟨"",2, [],2,false,b6⟩,
 ⟨"",1, [],2,false,b7⟩,
 ⟨"",1, [],1,false,b8⟩,
 ⟨"",1, [],1,false,b9⟩,
 ⟨"",2, [],2,false,(.cons .bad (.cons .bad .nil))⟩,
 ⟨"",2, [],2,false,(.cons .bad (.cons .bad .nil))⟩,
 ⟨"",2, [],3,false,Zj⟩,
 ⟨"",3, [.int 0],3,false,YI⟩,
 ⟨"",1, [],1,false,WN⟩,
 ⟨"",1, [],3,false,XV⟩,
 ⟨"",1, [],2,false,(.cons .bad (.cons .bad (.cons .bad .nil)))⟩,
 ⟨"",1, [],2,false,(.cons .bad (.cons .bad (.cons .bad .nil)))⟩,
 ⟨"",1, [],3,false,Wv⟩,
 ⟨"",1, [],2,false,(.cons .bad (.cons .bad (.cons .bad (.cons .bad .nil))))⟩,
 ⟨"",1, [],2,false,Xn⟩,
 ⟨"",2, [],3,false,(.cons .bad (.cons .bad (.cons .bad (.cons .bad .nil))))⟩,
 ⟨"",1, [],1,false,Xc⟩,
 ⟨"",1, [],1,false,XT⟩,
 ⟨"",2, [],2,false,Wz⟩,
 ⟨"",2, [],2,false,(.cons .bad .nil)⟩,
 ⟨"",2, [],2,false,(.cons .bad .nil)⟩,
 ⟨"",2, [],2,false,Yd⟩,
 ⟨"",2, [],2,false,X9⟩,
 ⟨"",2, [],2,false,Yj⟩,
 ⟨"",2, [],2,false,(.cons .bad .nil)⟩,
 ⟨"",1, [],1,false,Y6⟩,
 ⟨"",1, [],1,false,XM⟩,
 ⟨"",3, [],3,false,Wf⟩,
 ⟨"",2, [],2,false,V0⟩,
 ⟨"",4, [],4,false,Ye⟩,
 ⟨"",1, [],1,false,(.cons .bad .nil)⟩,
 ⟨"",1, [],1,false,Zi⟩,
 ⟨"",1, [],1,false,(.cons .bad .nil)⟩,
 ⟨"",2, [],5,false,Y0⟩,
 ⟨"",1, [],1,false,WG⟩,
 ⟨"",2, [],6,false,(.cons .bad (.cons .bad (.cons .bad (.cons .bad (.cons .bad (.cons .bad .nil))))))⟩,
 ⟨"",2, [],2,false,(.cons .bad .nil)⟩,
 ⟨"",1, [],3,false,WL⟩,
 ⟨"",1, [],2,false,Yw⟩,
 ⟨"",5, [],5,false,Yl⟩,
 ⟨"",1, [],1,false,(.cons .bad .nil)⟩,
 ⟨"",1, [],1,false,(.cons .bad .nil)⟩,
 ⟨"",1, [],1,false,(.cons .bad .nil)⟩,
 ⟨"",1, [],1,false,(.cons .bad .nil)⟩,
 ⟨"",6, [],6,false,XB⟩,
 ⟨"",1, [],1,false,V6⟩,
 ⟨"",1, [],1,false,(.cons .bad .nil)⟩,
 ⟨"",2, [],3,false,VY⟩,
 ⟨"",1, [],4,false,YV⟩,
 ⟨"",1, [],2,false,Wr⟩,
 ⟨"",1, [],7,false,WH⟩,
 ⟨"",7, [],7,false,XS⟩,
 ⟨"",1, [],1,false,(.cons .bad .nil)⟩,
 ⟨"",1, [],2,false,YP⟩,
 ⟨"",2, [],2,false,YH⟩,
 ⟨"",1, [],1,false,Wp⟩,
 ⟨"",1, [],8,false,YA⟩,
 ⟨"",2, [],3,false,XI⟩,
 ⟨"",1, [],1,false,Wa⟩,
 ⟨"",1, [],2,false,W4⟩,
 ⟨"",1, [],3,false,We⟩,
 ⟨"",3, [],4,false,W5⟩,
 ⟨"",1, [],5,false,WU⟩,
 ⟨"",2, [],2,false,WP⟩,
 ⟨"",1, [],7,false,UV⟩,
 ⟨"",1, [],1,false,WD⟩,
 ⟨"",5, [],6,false,WX⟩,
 ⟨"",4, [],6,false,Ws⟩,
 ⟨"",3, [],7,false,HN⟩,
 ⟨"",2, [],2,false,WR⟩,
 ⟨"",3, [],7,false,Mz⟩,
 ⟨"",3, [],6,false,Rg⟩,
 ⟨"",2, [],2,false,Yv⟩,
 ⟨"",2, [],3,false,Yh⟩,
 ⟨"",2, [],5,false,Ze⟩,
 ⟨"",1, [],4,false,Y4⟩,
 ⟨"",1, [],7,false,VX⟩,
 ⟨"",1, [],1,false,Ym⟩,
 ⟨"",2, [],2,false,YW⟩,
 ⟨"",1, [],1,false,Yx⟩,
 ⟨"",3, [],3,false,Ur⟩,
 ⟨"",2, [],5,false,XF⟩,
 ⟨"",1, [],1,false,Xt⟩,
 ⟨"",1, [],1,false,Yb⟩,
 ⟨"",2, [],2,false,Yz⟩,
 ⟨"",4, [],6,false,V3⟩,
 ⟨"",2, [],5,false,WQ⟩,
 ⟨"",0, [],0,false,Zg⟩,
 ⟨"",0, [],0,false,W9⟩,
 ⟨"",0, [],0,false,WB⟩,
 ⟨"",2, [],2,false,XA⟩,
 ⟨"",1, [],1,false,Xr⟩,
 ⟨"",1, [],1,false,YB⟩,
 ⟨"",2, [],24,false,Rw⟩,
 ⟨"",4, [],21,true,Cv⟩]
noncomputable def rT:List (Nat×Nat×Nat):= [(9,0,13),(9,36,14),(9,64,15),(9,24,16),(9,25,17),(9,37,18),(9,42,19),(9,26,20),(9,60,21),(9,19,22),(10,0,23),(10,64,24),(10,24,25),(10,25,26),(10,37,27),(10,42,28),(10,26,29),(10,49,30),(10,19,31),(11,0,32),(11,47,33),(11,16,34),(11,61,35),(11,8,36),(11,13,37),(11,56,38),(11,1,39),(11,43,40),(11,21,41),(12,0,45),(12,50,46),(12,12,47),(12,46,48),(12,56,49),(13,0,50),(13,50,51),(13,12,52),(14,0,57),(14,50,58),(14,21,59),(15,0,69),(15,38,70),(15,39,71),(15,48,72),(15,7,73),(15,3,74),(15,10,75),(15,17,76),(15,18,77),(15,27,78),(15,54,79),(15,53,80),(15,51,81),(15,55,82),(15,50,83),(16,0,85),(16,67,86),(16,60,87),(16,58,88),(16,29,89),(16,27,90),(16,52,91),(16,14,92)]
noncomputable def tQ:List (Nat×Nat):= [(9,15),(9,4),(10,45),(11,51),(11,66),(12,62),(12,28),(12,32),(12,15),(13,65),(13,34),(13,44),(13,35),(13,5),(14,32),(14,9),(14,41),(14,31),(14,63),(14,22),(15,57),(15,2),(15,62),(15,11),(15,20),(15,59),(16,40),(16,6),(16,30),(16,33)]
noncomputable def pN (c m:Nat):List (Nat×Nat×Nat)->Option Nat
 | []=>none
 |(c',m',f)::r=>if c' =c/\m' =m then some f else pN c m r
theorem Em (c m c' m' f:Nat)(r:List (Nat×Nat×Nat)):pN c m ((c',m',f)::r)=if c' =c/\m' =m then some f else pN c m r:=rfl
noncomputable def bx:Nat->cA->cA
 |0,s=>s
 |n+1, .cons _ t=>bx n t
 |_, .nil=> .nil
noncomputable def P:PI where
 fns:=wv
 field:=λc a=>tQ.contains (c,a)
 ma:=λc m=>pN c m rT
 init:=λc=>pN c 0 rT
 mc:=⟨1,23,27⟩
end Mine
namespace Mine
open PySem PySem.W PySem.Calls PyProof.Rows PySem.Spec
noncomputable section
noncomputable def Vz:List Nat:= [21,137,144,151,158,165,172,179,186,193,200,207,214,229,236,243,250,257,264,271,278,285,292,313,320,327,334,341,348,355,362,369,390,397,404,411,418,425,432,439,446,453,467,474,481,495,502,509,516,523,544,551,558,572,579,586,593,607,614,621,635,642,649,656,663,670,677,684,691,705,712,719,726,733,740,747,754,761,768,775,782,789,796,803,817,831,838,845,852,859,866,873,880,894,901,908,915,922,929,936,941,946]
noncomputable def UN:List Nat:= [31,44,56,68,80,92,104,116,128,295,372,456,526,561,624,806,883]
noncomputable def HW:List String:= ["__init__", "append", "applied", "apply", "at", "auto_leave", "batches", "begin", "clear", "client", "command_of", "conf_octets", "copy", "count", "cut", "data", "delete", "do_command", "do_effect", "done", "durable", "encode", "expect", "extend", "fixed32", "fixed64", "flag", "get", "index", "is_durable", "kept", "key", "kind", "last", "learners", "learners_next", "left", "lengthed", "load", "mark_durable", "now", "number", "octet", "ops", "outgoing", "parts", "payload", "put", "put_applied", "raw", "row", "rows", "scan", "session", "session_row", "sessions", "size", "store", "sync", "sync_each", "take", "take_op", "term", "value", "varint", "voters", "weight", "write"]
noncomputable def VC:List (String×GV):= [("_wall", .fn 0),("KeepError", .cls 0),("StoreError", .cls 1),("Corrupt", .cls 2),("ShortOctets", .cls 3),("BadOption", .cls 4),("BatchRefused", .cls 5),("ServeError", .cls 6),("BadCommand", .cls 7),("AppliedGap", .cls 8),("MAX_32", .int 4294967295),("MAX_64", .int 18446744073709551615),("write_groups", .fn 1),("read_groups", .fn 2),("put_varint", .fn 3),("read_varint", .fn 4),("put_varint32", .fn 5),("read_varint32", .fn 6),("varint_length", .fn 7),("put_fixed32", .fn 8),("put_fixed64", .fn 9),("read_fixed32", .fn 10),("read_fixed64", .fn 11),("read_lengthed", .fn 12),("Cursor", .cls 9),("Sink", .cls 10),("KIND_DELETE", .int 0),("KIND_VALUE", .int 1),("MAX_SEQ", .int 72057594037927935),("BATCH_HEAD", .int 12),("WriteBatch", .cls 11),("check_span", .fn 42),("ENTRY_CONF", .int 2),("rising", .fn 43),("take_count", .fn 44),("Entry", .cls 12),("ConfState", .cls 13),("put_ids", .fn 53),("take_ids", .fn 54),("encode_conf", .fn 55),("decode_conf", .fn 56),("CMD_NONE", .int 0),("CMD_PUT", .int 1),("CMD_DELETE", .int 2),("CMD_CAS", .int 3),("CMD_OPEN", .int 5),("CMD_CLOSE", .int 6),("REPLY_OK", .int 0),("REPLY_NO", .int 1),("REPLY_UNKNOWN", .int 2),("REPLY_STALE", .int 3),("APPLIED_KEY", .bytes [97]),("DATA_HEAD", .bytes [100]),("DATA_END", .bytes [101]),("SESSION_HEAD", .bytes [115]),("SESSION_END", .bytes [116]),("Command", .cls 14),("put_maybe", .fn 60),("take_maybe", .fn 61),("decode_command", .fn 62),("make_reply", .fn 63),("data_key", .fn 64),("session_key", .fn 65),("client_of", .fn 66),("encode_session", .fn 67),("decode_session", .fn 68),("Machine", .cls 15),("same_maybe", .fn 84),("MemStore", .cls 16),("_law_clients", .fn 93),("_law_keys", .fn 94),("_law_kinds", .fn 95),("_law_draw", .fn 96),("_law_number", .fn 97),("_law_maybe", .fn 98),("_law_read", .fn 99),("_law_whole", .fn 100),("law", .fn 101),("len", .bi .len),("bytes", .bi .bytes),("bytearray", .bi .bytearray),("range", .bi .range),("list", .bi .list),("tuple", .bi .tuple),("sorted", .bi .sorted),("min", .bi .min),("sum", .bi .sum)]
noncomputable def Nt:List String->Nat->Nat->Str
 |s::_,0,_=>zs s
 |_::r,n+1,k=>Nt r n k
 | [],_,k=>⟨#[63,k]⟩
noncomputable def T9:List Nat->Nat->Nat
 |a::_,0=>a
 |_::r,n+1=>T9 r n
 | [],_=>0
noncomputable def S0:lu:=⟨λa=>Nt HW a a,T9 UN,T9 Vz,λc a=>tQ.contains (c,a),VC.map λp=>(zs p.1,p.2),λk=>k==7⟩
noncomputable def X0:Nat->Bool:=λk=>k==2||k==3||k==4||k==5||k==7||k==8
noncomputable def Vs:Option Obj->Bool
 |some ⟨_,_, .freed,_⟩=>false
 |some _=>true
 |none=>false
noncomputable def kA:List Nat:=Vz++(UN++List.range 947)
noncomputable def KF (P:Params):Frag:=kA.map λa=>(a,((TF P).get a).getD default)
noncomputable def TJ (K:Frag)(f:Nat)(fi:Fn):Ev (∃oc od fd yk,K.lookup (S0.oG f)=some ⟨oc,od, .func fd,yk⟩/\rg K S0 X0 fd fi):=match K.lookup (S0.oG f) with
 |some ⟨oc,od, .func fd,yk⟩=>bd (Vy K S0 X0 fd fi) λq=>ev ⟨oc,od,fd,yk,rfl,q⟩
 |_=>none
noncomputable def KP (K:Frag):List Fn->Nat->Bool
 | [],_=>true
 |fi::r,f=>(TJ K f fi).isSome&&KP K r (f+1)
noncomputable def QN (K:Frag)(f:Nat)(fi:Fn)(i w:Nat)(k:EK)(t:Option (SE×SE))(aI:cA):Ev (E3 K S0 X0 f fi i w k t aI):=match h:K.lookup (S0.oG f) with
 |some ⟨oc,od, .func fd,yk⟩=>bd (Vy K S0 X0 fd fi) λq=>bd (T8 S0 X0 (sS fd) i w k t aI fd.body) λz=>ev ⟨oc,od,fd,yk,h,q,z⟩
 |_=>none
theorem Sr (w:World):(kA.all λa=>Nat.blt a 947&&Vs ((TF w.params).get a))=true:=by kernel_rfl
theorem Ik {K:Frag}:∀{n k:Nat} {l:List Fn},KP K (l.take n) k=true->KP K (l.drop n) (k+n)=true->KP K l k=true:=by
 intro n
 induction n with
 |zero=>exact λu8 h=>h
 |succ n ih=>
  intro k l h1 h2
  cases l with
  |nil=>rfl
  |cons f r=>
   obtain ⟨x,y⟩:=jb h1
   exact Bool.and_eq_true_iff.mpr ⟨x,ih y ((show k+1+n=k+(n+1) from Nat.succ_add k n)▸h2)⟩
theorem SY (w:World):KP (KF w.params) (wv.take 62) 0=true:=by kernel_rfl
theorem SM (w:World):KP (KF w.params) (wv.drop 62) 62=true:=by kernel_rfl
theorem R4 (w:World):KP (KF w.params) wv 0=true:=Ik (n:=62) (k:=0) (SY w) (SM w)
theorem RP (w:World):(QN (KF w.params) 101 ⟨"",1, [],38,true,un⟩ 2 1 (.one (.bin .mod (.loc 1000) (.int 999983))) .none (bx 1 un)).isSome=true:=by kernel_rfl
theorem MX {K:Frag}:∀{k i:Nat} {fi:Fn},KP K l k=true->l[i]? =some fi->∃oc od fd yk,K.lookup (S0.oG (k+i))=some ⟨oc,od, .func fd,yk⟩/\rg K S0 X0 fd fi:=by
 induction l with
 |nil=>exact λu8 e=>nh e
 |cons f r ih=>
  intro k i fi h e
  cases i with
  |zero=>exact cq e▸Ev.get (jb h).1
  |succ i=>exact (show k+1+i=k+(i+1) from Nat.succ_add k i)▸ih (jb h).2 e
theorem zE {T:BT}{L:List Nat}(h:(L.map λa=>(a,(T.get a).getD default)).lookup a=some o):a∈L/\o=(T.get a).getD default:=by
 induction L with
 |nil=>cases h
 |cons b L ih=>
  rw [dZ,List.lookup_cons] at h
  by_cases e:a=b
  ·subst e
   rw [iu] at h
   exact ⟨.head _,(cq h).symm⟩
  ·rw [eX e] at h
   exact ⟨.tail _ (ih h).1,(ih h).2⟩
theorem FQ (h:Vs o=true):∃x,o=some x/\alive x=some x:=by
 cases o with
 |none=>cases h
 |some x=>
  obtain ⟨c,d,dt,sl⟩:=x
  cases dt with
  |freed=>cases h
  |_=>exact ⟨_,rfl,rfl⟩
theorem Ou (w:World):(KF w.params).In (HT w.params):=λa o h=>by
 obtain ⟨h1,h2⟩:=zE h
 have k:=List.all_eq_true.mp (Sr w) a h1
 obtain ⟨k1,k2⟩:=jb k
 refine aZ (FQ k2) λx e1 e2=> ?_
 rw [e1] at h2
 subst h2
 exact (abs_get (Nat.le_of_ble_eq_true k1) e1).trans e2
noncomputable def Uy {α:Type}{p:α->Prop}(d:∀a,Ev (p a)):∀l:List α,Ev (∀a∈l,p a)
 | []=>ev λa h=>nomatch h
 |b::l=>bd (d b) λh=>bd (Uy d l) λt=>ev λa m=>(cH m).elim (λe=>e▸h) (t a)
noncomputable def FY (K:Frag)(x:Str):GV->Prop
 | .int i=>∃t,nsIn K mainGlobals x=some (some (.int i t))
 | .bytes b=>∃dp t,nsIn K mainGlobals x=some (some (.bytes dp t))/\KBw.bInts dp=b/\b.length<=big
 | .fn f=>nsIn K mainGlobals x=some (some (.ref (S0.oG f)))/\keepIn K (.ref (S0.oG f))=true
 | .cls k=>nsIn K mainGlobals x=some (some (.ref (S0.dF k)))
 | .bi b=>nsIn K mainGlobals x=some none/\bootBuiltins x=some (fk b)/\x≠ "__name__"
noncomputable def dG (K:Frag)(x:Str)(g:GV):Ev (FY K x g):=match g with
 | .int i=>(match h:nsIn K mainGlobals x with
  |some (some (.int j t))=>bd (ce j i) λq=>ev ⟨t,q▸h⟩
  |_=>none)
 | .bytes b=>(match h:nsIn K mainGlobals x with
  |some (some (.bytes dp t))=>bd (ce (KBw.bInts dp) b) λq=>bd (cp (b.length<=big)) λl=>ev ⟨dp,t,h,q,l⟩
  |_=>none)
 | .fn f=>bd (ce (nsIn K mainGlobals x) (some (some (.ref (S0.oG f))))) λa=>bd (ck (keepIn K (.ref (S0.oG f)))) λb=>ev ⟨a,b⟩
 | .cls k=>ce (nsIn K mainGlobals x) (some (some (.ref (S0.dF k))))
 | .bi b=>bd (ce (nsIn K mainGlobals x) (some none)) λa=>bd (ce (bootBuiltins x) (some (fk b))) λb=>bd (cp (x≠ "__name__")) λc=>ev ⟨a,b,c⟩
theorem R6 (w:World):(Uy (p:=λq:String×GV=>FY (KF w.params) (zs q.1) q.2) (λq=>dG (KF w.params) (zs q.1) q.2) VC).isSome=true:=by kernel_rfl
theorem S3 (w:World):(tQ.all λq=>lb (KF w.params) (S0.dF q.1)&&pc (KF w.params) (S0.dF q.1) (S0.attr q.2))=true:=by kernel_rfl
theorem Ov (w:World):(rT.all λq=>lb (KF w.params) (S0.dF q.1)&&rF (KF w.params) (S0.dF q.1) (S0.attr q.2.1) (S0.oG q.2.2))=true:=by kernel_rfl
theorem Rx (w:World):(rT.all λq=>q.2.1 !=0||(keepIn (KF w.params) (.ref (S0.dF q.1))&&(findIn (KF w.params) (.ref (S0.dF q.1)) "__init__"==some (some (.ref (S0.oG q.2.2)))&&isFn (KF w.params) (.ref (S0.oG q.2.2)))))=true:=by kernel_rfl
theorem Pc:((HW.map zs).Nodup/\∀s∈HW,(zs s).cps[0]?≠some 63):=by decide+kernel
theorem M1:S0.attr P.mc.append= "append"/\S0.attr P.mc.extend= "extend"/\S0.attr P.mc.get= "get":=by decide+kernel
set_option tactic.hygienic true in
theorem nZ:∀{l:List (Nat×Nat×Nat)},pN c m l=some f->(c,m,f)∈l
 |(c',m',f')::r,h=>by
  rw [Em] at h
  split at h
  ·rename_i e
   cases h
   rw [<-e.1,<-e.2];exact .head _
  ·exact .tail _ (nZ h)
theorem zo:∀{n k:Nat} {s:String},l[n]? =some s->Nt l n k=zs s:=by
 induction l with
 |nil=>exact λh=>nh h
 |cons x r ih=>
  intro n k s h
  cases n with
  |zero=>exact congrArg zs (cq h)
  |succ n=>exact ih h
theorem zF:∀{n k:Nat},l[n]? =none->Nt l n k=⟨#[63,k]⟩:=by
 induction l with
 |nil=>exact λu8=>rfl
 |cons x r ih=>
  intro n k h
  cases n with
  |zero=>exact E6 h
  |succ n=>exact ih h
theorem ET {a b:Nat}{s:String}(h:HW[a]? =some s)(e:zs s=⟨#[63,b]⟩):False:=Pc.2 s (List.mem_of_getElem? h) (by rw [e];rfl)
theorem IL (a b:Nat)(h:S0.attr a=S0.attr b):a=b:=by
 change Nt HW a a=Nt HW b b at h
 cases ea:HW[a]? with
 |none=>
  rw [zF ea] at h
  cases eb:HW[b]? with
  |none=>
   rw [zF eb] at h
   exact (congrArg (λz:Str=>z.cps.toList.getD 1 0) h:_)
  |some t=>rw [zo eb] at h;exact (ET eb h.symm).elim
 |some s=>
  rw [zo ea] at h
  cases eb:HW[b]? with
  |none=>rw [zF eb] at h;exact (ET ea h).elim
  |some t=>
   rw [zo eb] at h
   refine (List.getElem?_inj (l:=HW.map zs) (i:=a) (j:=b) ?_ Pc.1).mp ?_
   ·rw [bI];exact (gw ea).1
   ·rw [iW,iW,ea,eb]
    exact congrArg some h
theorem kE {w:World}(h:S0.glob.lookup x=some g):FY (KF w.params) x g:=by
 refine aZ (gH (eM h)) λq hq e=> ?_
 cases e
 exact Ev.get (R6 w) q hq
theorem KU (w:World):wX (KF w.params) P S0 where
 inj:=IL
 fld:=rfl
 field c a h:=jb (List.all_eq_true.mp (S3 w) (c,a) (List.contains_iff_mem.mp h))
 ma c m f h:=jb (List.all_eq_true.mp (Ov w) (c,m,f) (nZ h))
 init c f h:=by
  have m:=nZ h
  have z:=List.all_eq_true.mp (Rx w) (c,0,f) m
  have z:=jb z
  have z2:=jb z.2
  exact ⟨(jb (List.all_eq_true.mp (Ov w) (c,0,f) m)).1,z.1,beq_iff_eq.mp z2.1,z2.2⟩
 NP x i h:=kE h
 El x b h:=kE h
 T7 x f h:=kE h
 EV x k h:=kE h
 VQ x b h:=kE h
 Ly:=M1.1
 PW:=M1.2.1
 IY:=M1.2.2
theorem SL (w:World):([2,3,4,5,7,8].all λj=>i4 (KF w.params) (S0.dF j))=true:=by kernel_rfl
theorem RJ (w:World):Lo (KF w.params) S0 P X0:=by
 refine ⟨λf fi h=> ?_,λj h=> ?_⟩
 ·have z:=MX (R4 w) h
  rw [Nat.zero_add] at z
  exact z
 ·refine List.all_eq_true.mp (SL w) j ?_
  unfold X0 at h
  simp only [Bool.or_eq_true,beq_iff_eq] at h
  simp only [List.mem_cons]
  lia
end
end Mine
namespace Mine
open PySem PySem.W PySem.Calls PyProof.Rows
noncomputable section
theorem Sb (w:World):(λos=>segRunT treeTable qP w 11 (some (.ref 6)) 1 916 (sT (Q0 w.params) 15 187 os) (piecesOf (slice ik 0 6) qg cB ⟨0,0,0,0⟩ AP))=λos=>some (.next,sT (Q5 w.params) 71 264 os,cB,⟨11,0,12,8⟩):=by kernel_rfl
theorem NW (w:World):(λos=>segRunT treeTable qP w 11 (some (.ref 6)) 1 1122 (sT (Q5 w.params) 71 264 os) (piecesOf (slice ik 6 5) qg cB ⟨11,0,12,8⟩ AP))=λos=>some (.next,sT (Vo w.params) 131 344 os,cB,⟨21,0,22,8⟩):=by kernel_rfl
theorem OK (w:World):(λos=>segRunT treeTable qP w 11 (some (.ref 6)) 1 907 (sT (Vo w.params) 131 344 os) (piecesOf (slice ik 11 16) qg cB ⟨21,0,22,8⟩ AP))=λos=>some (.next,sT (UL w.params) 300 555 os,cB,⟨97,0,157,64⟩):=by kernel_rfl
theorem PX (w:World):(λos=>segRunT treeTable qP w 11 (some (.ref 6)) 1 1038 (sT (UL w.params) 300 555 os) (piecesOf (slice ik 27 7) qg cB ⟨97,0,157,64⟩ AP))=λos=>some (.next,sT (Uk w.params) 461 763 os,cB,⟨200,0,244,25⟩):=by kernel_rfl
theorem Qj (w:World):(λos=>segRunT treeTable qP w 11 (some (.ref 6)) 1 754 (sT (Uk w.params) 461 763 os) (piecesOf (slice ik 34 7) qg cB ⟨200,0,244,25⟩ AP))=λos=>some (.next,sT (UD w.params) 566 906 os,cB,⟨280,0,293,16⟩):=by kernel_rfl
theorem PN (w:World):(λos=>segRunT treeTable qP w 11 (some (.ref 6)) 1 849 (sT (UD w.params) 566 906 os) (piecesOf (slice ik 41 30) qg cB ⟨280,0,293,16⟩ AP))=λos=>some (.next,sT (Vl w.params) 692 1115 os,cB,⟨410,0,416,33⟩):=by kernel_rfl
theorem Qt (w:World):(λos=>segRunT treeTable qP w 11 (some (.ref 6)) 1 712 (sT (Vl w.params) 692 1115 os) (piecesOf (slice ik 71 1) qg cB ⟨410,0,416,33⟩ AP))=λos=>some (.next,sT (Vu w.params) 811 1297 os,cB,⟨417,0,563,102⟩):=by kernel_rfl
theorem Pk (w:World):(λos=>segRunT treeTable qP w 11 (some (.ref 6)) 1 773 (sT (Vu w.params) 811 1297 os) (piecesOf (slice ik 72 12) qg cB ⟨417,0,563,102⟩ AP))=λos=>some (.next,sT (RB w.params) 947 1485 os,cB,⟨708,0,821,49⟩):=by kernel_rfl
end
noncomputable section
theorem R9 (w:World):(λos=>topGo treeTable qP w 11 (some (.ref 6)) 12 ⟨boot_heap w.params,⟨[]⟩,boot_drawn,boot_toks,os⟩ (topStub qP))=λos=>some ((sT (Q0 w.params) 15 187 os).abs,⟨denote treeTable cB,cB,⟨0,0,0,0⟩,AP⟩):=by kernel_rfl
theorem TH (w:World):(λos=>segRun treeTable qP w 11 (some (.ref 6)) 1 1 (sT (Q0 w.params) 15 187 os).abs (blockOf ik qg cB ⟨0,0,0,0⟩ AP))=λos=>some (.next,(sT (Q0 w.params) 15 187 os).abs,cB,⟨0,0,0,0⟩):=by kernel_rfl
theorem Ry (w:World):(λos=>topRun treeTable qP w 11 (some (.ref 6)) 2 (sT (RB w.params) 947 1485 os).abs ⟨doneF .next,cB,⟨708,0,821,49⟩,AP⟩)=λos=>some (sT (RB w.params) 947 1485 os).abs:=by kernel_rfl
theorem qK {n N a m:Nat}(h:segRunT treeTable qP w 11 (some (.ref 6)) 1 n s (piecesOf (slice ik a m) qg cB pos AP)=some (.next,s',cB,p'))
  (k:topRun treeTable qP w 11 (some (.ref 6)) N s'.abs (restOf (ik.drop (a+m)) qg cB p' AP)=some r):topRun treeTable qP w 11 (some (.ref 6)) (n+N) s.abs (restOf (ik.drop a) qg cB pos AP)=some r:=by
 have e:ik.drop a=slice ik a m++ik.drop (a+m):=by
  unfold slice
  rw [<-List.drop_drop];exact (List.take_append_drop m _).symm
 rw [e]
 exact piece_app (segRun_of h) k
theorem Ru:ik.drop 84= []:=by kernel_rfl
theorem Se (w:World)(os:OsState):topRun treeTable qP w 11 (some (.ref 6)) 7200 ⟨boot_heap w.params,⟨[]⟩,boot_drawn,boot_toks,os⟩ (topStub qP)=some ⟨HT w.params,⟨[]⟩,boot_drawn,1485,os⟩:=by
 have z:=go_top (congrFun (R9 w) os) (piece_block (congrFun (TH w) os) (qK (a:=0) (congrFun (Sb w) os) (qK (congrFun (NW w) os) (qK (congrFun (OK w) os) (qK (congrFun (PX w) os) (qK (congrFun (Qj w) os)
  (qK (congrFun (PN w) os) (qK (congrFun (Qt w) os) (qK (congrFun (Pk w) os) (by rw [Ru];exact piece_nil (congrFun (Ry w) os)))))))))))
 exact topRun_mono 114 _ _ _ _ z
noncomputable def q1:Program:=view qP [83]
noncomputable def pS:List Str:=(["__name__", "__doc__", "__package__", "__loader__", "__spec__", "__annotations__", "__builtins__", "__file__", "__cached__"]:List String).map zs++qP.boundNames.filter (· !=zs "law")
theorem PB:opening qP=plainProg qP.main.scope.names:=by kernel_rfl
theorem Li:(λs=>fenceModules? qP s)=λs=>some s:=by kernel_rfl
theorem Po (w:World):((boot_heap w.params).isNs mainGlobals&&(⟨[]⟩:Array GenState).size==0,(boot_heap w.params).objs.size,(boot_heap w.params).nsMap mainGlobals "__annotations__")=(true,11,some (.ref 6)):=by kernel_rfl
theorem OL (w:World):(λos:OsState=>(staticsOk (importedModules qP.main.body) (boot_heap w.params) (HT w.params)&&namesBound qP (HT w.params)&&gensDone ⟨HT w.params,⟨[]⟩,boot_drawn,1485,os⟩&&laidKept (boot_heap w.params) (HT w.params)))=λu8=>true:=by kernel_rfl
theorem Pn (w:World):(λos:OsState=>openSeen q1 pS (importedModules qP.main.body) (λu8=>true) true ⟨HT w.params,⟨[]⟩,boot_drawn,1485,os⟩)=λu8=>openGood q1 pS:=by kernel_rfl
noncomputable def dL:DefRec:=if h:(nb 83).ctorIdx=0 then Stmt.FunctionDef.elim (motive_2:=λu8=>DefRec) (nb 83) h λn a b u8 u8 u8 sc u8 u8 p=>⟨n,a,b,sc,p⟩ else ⟨zs "",⟨[], [],none, [], [],none, []⟩, [],qP.main.scope,⟨0,0,0,0⟩⟩
theorem TK:defOf q1 (zs "law")=some (dL, []):=by kernel_rfl
theorem SG:qP.theDef (zs "law")=some (dL.params,dL.body,dL.scope):=by kernel_rfl
theorem Uh:kwWritten? dL.params.kwonlyargs dL.params.kw_defaults=some []:=by kernel_rfl
end
end Mine
namespace Mine
open PySem
noncomputable def eR (cells:Bool)(o:cQ):du SV:=match o with
 | .next _ H=> .ok .none H
 | .ret v H=> .ok v H
 | .exc c _ H=>if cells then .bad else .exc c H
 | .jp c H=>if cells then .bad else .exc c H
 |_=> .bad
noncomputable def cK:cA->SS
 | .cons h _=>h
 | .nil=> .pass
noncomputable def nN:SS->cA
 | .ifs _ a _=>a
 |_=> .nil
noncomputable def kJ:SS->cA
 | .ifs _ _ b=>b
 |_=> .nil
noncomputable def tD:SS->cA
 | .jd _ _ b=>b
 |_=> .nil
theorem WM {P:Prop}(h:∀G:Prop,(P->G)->G):P:=h P id
theorem tH {d f:Nat}(h:P.fns[f]? =some fi)(h2:uA fi as=some Ie):
  run P (d+1) f as H=eR fi.cells (aK P (run P d) fi.body (Ie.map some++List.replicate (fi.oj - fi.fV) none) H):=by
 show (match P.fns[f]? with
  |some fi=>(match uA fi as with
   |some as=>eR fi.cells (aK P (run P d) fi.body (as.map some++List.replicate (fi.oj - fi.fV) none) H)
   |none=> .bad)
  |none=> .bad)=_
 rw [h]
 dsimp only
 rw [h2]
theorem aE {d f:Nat}(h:P.fns[f]? =some fi)(h2:uA fi as=some Ie)(e:aK P (run P d) fi.body (Ie.map some++List.replicate (fi.oj - fi.fV) none) H= .ret v H'):run P (d+1) f as H= .ok v H' :=by
 rw [tH h h2,e];rfl
theorem bW {d f:Nat}(h:P.fns[f]? =some fi)(h2:uA fi as=some Ie)(e:aK P (run P d) fi.body (Ie.map some++List.replicate (fi.oj - fi.fV) none) H= .next l H'):run P (d+1) f as H= .ok .none H' :=by
 rw [tH h h2,e];rfl
theorem Sf {d f k:Nat}(h:P.fns[f]? =some fi)(hc:fi.cells=false)(h2:uA fi as=some Ie)(e:aK P (run P d) fi.body (Ie.map some++List.replicate (fi.oj - fi.fV) none) H= .exc k l H'):run P (d+1) f as H= .exc k H' :=by
 rw [tH h h2,e,hc];rfl
theorem lh {d f k:Nat}(h:P.fns[f]? =some fi)(hc:fi.cells=false)(h2:uA fi as=some Ie)(e:aK P (run P d) fi.body (Ie.map some++List.replicate (fi.oj - fi.fV) none) H= .jp k H'):run P (d+1) f as H= .exc k H' :=by
 rw [tH h h2,e,hc];rfl
section
variable {R:au}{l l' :cR}{H H1 H2 H3 H' :HP}{s:SS}{r a b:cA}{e e1 e2:SE}{es:nH}{v x y:SV}{vs:List SV}{o:cQ}{i k m f c:Nat}
theorem ae (h:gJ P R s l H= .next l' H')(h2:aK P R r l' H' =o):aK P R (.cons s r) l H=o:=by
 show (match gJ P R s l H with| .next l H=>aK P R r l H|o=>o)=_
 rw [h];exact h2
theorem aY (h:gJ P R s l H= .ret v H'):aK P R (.cons s r) l H= .ret v H' :=by
 show (match gJ P R s l H with| .next l H=>aK P R r l H|o=>o)=_
 rw [h]
theorem u0 (h:gJ P R s l H= .exc k l' H'):aK P R (.cons s r) l H= .exc k l' H' :=by
 show (match gJ P R s l H with| .next l H=>aK P R r l H|o=>o)=_
 rw [h]
theorem gY (h:gJ P R s l H= .jp k H'):aK P R (.cons s r) l H= .jp k H' :=by
 show (match gJ P R s l H with| .next l H=>aK P R r l H|o=>o)=_
 rw [h]
theorem aj:aK P R .nil l H= .next l H:=rfl
theorem eZ (h:gK P R e l H= .ok true H')(h2:aK P R a l H' =o):gJ P R (.ifs e a b) l H=o:=by
 show (gK P R e l H).then l _=_
 rw [h];exact h2
theorem cD (h:gK P R e l H= .ok false H')(h2:aK P R b l H' =o):gJ P R (.ifs e a b) l H=o:=by
 show (gK P R e l H).then l _=_
 rw [h];exact h2
theorem bK (h:bj P R e l H= .ok v H'):gJ P R (.ret e) l H= .ret v H' :=by
 show (bj P R e l H).then l _=_
 rw [h];rfl
theorem bJ (h:bj P R e l H= .ok v H'):gJ P R (.j3 (.name i) e) l H= .next (al l i v) H' :=by
 show (bj P R e l H).then l _=_
 rw [h];rfl
theorem lz (h:bj P R e l H= .ok (.tuple vs) H')(hl:is.length=vs.length):gJ P R (.j3 (.tup is) e) l H= .next (dJ l is vs) H' :=by
 show (bj P R e l H).then l _=_
 rw [h]
 show (if is.length=vs.length then cQ.next (dJ l is vs) H' else .bad)=_
 rw [if_pos hl]
theorem bV (h:bj P R e l H= .ok v H1)(h2:bj P R e1 l H1= .ok x H2)(h3:bD P x i v H2=some H3):gJ P R (.j3 (.attr e1 i) e) l H= .next l H3:=by
 show (bj P R e l H).then l _=_
 rw [h]
 show (bj P R e1 l H1).then l _=_
 rw [h2]
 show (match bD P x i v H2 with|some H=>cQ.next l H|none=> .bad)=_
 rw [h3]
theorem bX (h:bj P R e l H= .ok .none H'):gJ P R (.expr e) l H= .next l H' :=by
 show (bj P R e l H).then l _=_
 rw [h];rfl
theorem bc (h:l[i]? =some (some v)):bj P R (.loc i) l H= .ok v H:=by
 show (match l[i]? with|some (some v)=>du.ok v H|_=> .bad)=_
 rw [h]
theorem aF (h:bj P R e l H= .ok (.ref k) H1)(h2:H1[k]? =some (.inst c fs))(h3:fO i fs=some v):bj P R (.attr e i) l H= .ok v H1:=by
 show (bj P R e l H).bind _=_
 rw [h]
 show (match H1[k]? with|some (.inst _ fs)=>(match fO i fs with|some v=>du.ok v H1|none=> .bad)|_=> .bad)=_
 rw [h2]
 dsimp only
 rw [h3]
theorem aJ {op:wA}(h:bj P R e l H= .ok x H1)(h2:bj P R e1 l H1= .ok y H2){o:du SV}(h3:cF op x y H2=o):bj P R (.bin op e e1) l H=o:=by
 show (bj P R e l H).bind _=_
 rw [h]
 show (bj P R e1 l H1).bind _=_
 rw [h2];exact h3
theorem aN (h:bj P R e l H= .ok x H1)(h2:bj P R e1 l H1= .ok y H2){o:du SV}(h3:dH x y H2=o):bj P R (.sub e e1) l H=o:=by
 show (bj P R e l H).bind _=_
 rw [h]
 show (bj P R e1 l H1).bind _=_
 rw [h2];exact h3
theorem an (h:bj P R e l H= .ok x H1)(h2:bj P R e1 l H1= .ok y H2)(h3:bU op x y H2=some q):gK P R (.cmp op e e1) l H= .ok q H2:=by
 show (bj P R e l H).bind _=_
 rw [h]
 show (bj P R e1 l H1).bind _=_
 rw [h2]
 show ff (bU op x y H2) H2=_
 rw [h3];rfl
theorem cM (h:pg P R es l H= .ok q H'):gK P R (.and es) l H= .ok q H' :=h
theorem fC (h:qX P R es l H= .ok q H'):gK P R (.or es) l H= .ok q H' :=h
theorem fN:pg P R .nil l H= .ok true H:=rfl
theorem dM (h:gK P R e l H= .ok true H1)(h2:pg P R es l H1= .ok q H2):pg P R (.cons e es) l H= .ok q H2:=by
 show (gK P R e l H).bind _=_
 rw [h];exact h2
theorem iz (h:gK P R e l H= .ok false H1):pg P R (.cons e es) l H= .ok false H1:=by
 show (gK P R e l H).bind _=_
 rw [h];rfl
theorem fc:qX P R .nil l H= .ok false H:=rfl
theorem da (h:gK P R e l H= .ok false H1)(h2:qX P R es l H1= .ok q H2):qX P R (.cons e es) l H= .ok q H2:=by
 show (gK P R e l H).bind _=_
 rw [h];exact h2
theorem jX (h:gK P R e l H= .ok true H1):qX P R (.cons e es) l H= .ok true H1:=by
 show (gK P R e l H).bind _=_
 rw [h];rfl
theorem af:dK P R .nil l H= .ok [] H:=rfl
theorem aa (h:bj P R e l H= .ok v H1)(h2:dK P R es l H1= .ok vs H2):dK P R (.cons e es) l H= .ok (v::vs) H2:=by
 show (bj P R e l H).bind _=_
 rw [h]
 show (dK P R es l H1).bind _=_
 rw [h2];rfl
theorem bG (h:dK P R es l H= .ok vs H1):bj P R (.list es) l H= .ok (.ref H1.length) (H1++ [.list vs]):=by
 show (dK P R es l H).bind _=_
 rw [h];rfl
theorem db (h:dK P R es l H= .ok vs H1):bj P R (.tuple es) l H= .ok (.tuple vs) H1:=by
 show (dK P R es l H).bind _=_
 rw [h];rfl
theorem cz (h:dK P R es l H= .ok vs H1){o:du SV}(h2:R f vs H1=o):bj P R (.fT f es) l H=o:=by
 show (dK P R es l H).bind _=_
 rw [h];exact h2
theorem bu {b:Bi}(h:dK P R es l H= .ok vs H1){o:du SV}(h2:Mine.bH b vs H1=o):bj P R (.bH b es) l H=o:=by
 show (dK P R es l H).bind _=_
 rw [h];exact h2
theorem lF (h:dK P R es l H= .ok vs H1)(hi:P.init c=some f)(h2:R f (.ref H1.length::vs) (H1++ [.inst c []])= .ok .none H2):bj P R (.callC c es) l H= .ok (.ref H1.length) H2:=by
 show (dK P R es l H).bind _=_
 rw [h]
 show kP P R c vs H1=_
 unfold kP
 rw [hi]
 show (R f (.ref H1.length::vs) (H1++ [.inst c []])).bind _=_
 rw [h2];rfl
theorem aw (h:bj P R e l H= .ok v H1){q:MK}(h2:d6 P v m H1=some q)(h3:dK P R es l H1= .ok vs H2){o:du SV}(h4:dl R q v vs H2=o):bj P R (.ez e m es) l H=o:=by
 show (bj P R e l H).bind _=_
 rw [h]
 show (ff (d6 P v m H1) H1).bind _=_
 rw [h2]
 show (dK P R es l H1).bind _=_
 rw [h3];exact h4
theorem Uf (h:H[k]? =some (.inst c fs))(h2:P.ma c m=some f)(h3:fO m fs=none):d6 P (.ref k) m H=some (.fn f):=by
 show (match H[k]? with
  |some (.inst c fs)=>(match P.ma c m,fO m fs with|some f,none=>some (MK.fn f)|_,_=>none)
  |some (.list _)=>if m=P.mc.append then some .ng else none
  |some (.cw _)=>if m=P.mc.append then some .pr else if m=P.mc.extend then some .pB else none
  |some .aM=>if m=P.mc.get then some .iV else none
  |some (.cg _)=>if m=P.mc.get then some .iV else none
  |some (.dB _)=>if m=P.mc.get then some .iV else none
  |none=>none)=_
 rw [h]
 dsimp only
 rw [h2,h3]
theorem qE {n a:Int}(h:decide (a<=n)=q):bU .ge (.int n) (.int a) H=some q:=congrArg some h
theorem jG {n a:Int}(h:decide (a<n)=q):bU .gt (.int n) (.int a) H=some q:=congrArg some h
theorem gv {n a:Int}(h:decide (n<a)=q):bU .lt (.int n) (.int a) H=some q:=congrArg some h
end
noncomputable def vK (so:SO)(m:Nat):Option MK:=match so with
 | .inst c fs=>(match P.ma c m,fO m fs with|some f,none=>some (MK.fn f)|_,_=>none)
 | .list _=>if m=1 then some .ng else none
 | .cw _=>if m=1 then some .pr else if m=23 then some .pB else none
 | .aM=>if m=27 then some .iV else none
 | .cg _=>if m=27 then some .iV else none
 | .dB _=>if m=27 then some .iV else none
section
variable {R:au}{l l' :cR}{H H1 H2 H3 H' :HP}{b:cA}{e:SE}{v:SV}{o:cQ}{i k m:Nat}
theorem Xf {n:Nat}(h:test l H= .ok true H1)(h2:body l H1= .next l' H2)(h3:whileLoop test body n l' H2=o):whileLoop test body (n+1) l H=o:=by
 show (match test l H with
  | .ok false H=>cQ.next l H
  | .ok true H=>(match body l H with| .next l H=>whileLoop test body n l H|_=> .bad)
  |_=> .bad)=_
 rw [h]
 show (match body l H1 with| .next l H=>whileLoop test body n l H|_=> .bad)=_
 rw [h2];exact h3
theorem U3 {test:cR->HP->du Bool}{n:Nat}(h:test l H= .ok false H1):whileLoop test body (n+1) l H= .next l H1:=by
 show (match test l H with
  | .ok false H=>cQ.next l H
  | .ok true H=>(match body l H with| .next l H=>whileLoop test body n l H|_=> .bad)
  |_=> .bad)=_
 rw [h]
theorem su {a c:Int}(h:l[i]? =some (some (.int a)))(h2:bj P R e l H= .ok (.int c) H1)(h3:cF op (.int a) (.int c) H1= .ok v H2):gJ P R (.qh i op e) l H= .next (al l i v) H2:=by
 show (match l[i]? with
  |some (some (.int a))=>(bj P R e l H).then l λv H=>(match v with
   | .int b=>(cF op (.int a) (.int b) H).then l λv H=>cQ.next (al l i v) H
   |_=> .bad)
  |_=> .bad)=_
 rw [h]
 show (bj P R e l H).then l _=_
 rw [h2]
 show (cF op (.int a) (.int c) H1).then l _=_
 rw [h3];rfl
theorem bN (h:H[k]? =some so):d6 P (.ref k) m H=vK so m:=by
 show (match H[k]? with
  |some (.inst c fs)=>(match P.ma c m,fO m fs with|some f,none=>some (MK.fn f)|_,_=>none)
  |some (.list _)=>if m=P.mc.append then some .ng else none
  |some (.cw _)=>if m=P.mc.append then some .pr else if m=P.mc.extend then some .pB else none
  |some .aM=>if m=P.mc.get then some .iV else none
  |some (.cg _)=>if m=P.mc.get then some .iV else none
  |some (.dB _)=>if m=P.mc.get then some .iV else none
  |none=>none)=_
 rw [h]
 cases so<;>rfl
theorem Gm {x:Int}(h:H[k]? =some (.cw bs))(h0:0<=x)(h1:x<256)(h2:bs.length<big):dl R .pr (.ref k) [.int x] H= .ok .none (H.set k (.cw (bs++ [x]))):=by
 show (match H[k]? with
   |some (.cw b)=>if mx x=true/\b.length<big then du.ok SV.none (H.set k (.cw (b++ [x]))) else .bad
   |_=> .bad)=_
 rw [h]
 exact if_pos ⟨by unfold mx;rw [bf h0,bf h1];rfl,h2⟩
theorem QE (h:H[k]? =some (.cw bs))(h2:bs.length+c.length<=big):dl R .pB (.ref k) [.bytes c] H= .ok .none (H.set k (.cw (bs++c))):=by
 show (match H[k]? with
   |some (.cw b)=>if b.length+c.length<=big then du.ok SV.none (H.set k (.cw (b++c))) else .bad
   |_=> .bad)=_
 rw [h]
 exact if_pos h2
theorem tC (h:H[k]? =some (.cw bs)):Mine.bH Bi.bytes [.ref k] H= .ok (.bytes bs) H:=by
 show (match H[k]? with
   |some (.cw b)=>du.ok (SV.bytes b) H
   |some (.list vs)=>(match bT vs with
    |some l=>if lJ l then .ok (.bytes l) H else .bad
    |none=> .bad)
   |_=> .bad)=_
 rw [h]
end
theorem Hu {R:au}(h:gK P R e l H= .ok p H)(h2:p=true->gK P R e1 l H= .ok q H):gK P R (.and (.cons e (.cons e1 .nil))) l H= .ok (p&&q) H:=by
 cases p with
 |false=>exact cM (iz h)
 |true=>cases q with
  |false=>exact cM (dM h (iz (h2 rfl)))
  |true=>exact cM (dM h (dM (h2 rfl) fN))
theorem Qc {R:au}(h:gK P R e l H= .ok p H)(h2:p=false->gK P R e1 l H= .ok q H):gK P R (.or (.cons e (.cons e1 .nil))) l H= .ok (p||q) H:=by
 cases p with
 |true=>exact fC (jX h)
 |false=>cases q with
  |false=>exact fC (da h (da (h2 rfl) fc))
  |true=>exact fC (da h (jX (h2 rfl)))
noncomputable def fr (l:cR)(k:Nat):Option SV:=(l[k]?).getD none
theorem nc {X:cQ}(g:(Nat->Option SV)->cR)(e:X= .next l H')(h:l=g (fr l)):X= .next (g (fr l)) H' :=e.trans (congrArg (cQ.next · H') h)
section
variable {H G:HP}{a b c:SO}
theorem nQ:(H++a::G)[H.length]? =some a:=by rw [eJ (bS _),Nat.sub_self];rfl
theorem rX:(H++a::b::G)[H.length+1]? =some b:=by rw [eJ (gR _ 1),Nat.add_sub_cancel_left];rfl
theorem x4:(H++a::G).set H.length c=H++c::G:=by rw [List.set_append_right _ _ (bS _),Nat.sub_self];rfl
theorem J6:(H++a::b::G).set (H.length+1) c=H++a::c::G:=by rw [List.set_append_right _ _ (gR _ 1),Nat.add_sub_cancel_left];rfl
end
theorem kD {n:Int}(h0:0<=n)(h1:n<256):lJ [n]=true:=by simp [lJ,h0,h1]
theorem cJ {H:HP}{k:Nat}(h:H[k]? =some (.list vs))(h2:bT vs=some is)(h3:lJ is=true):Mine.bH Bi.bytes [.ref k] H= .ok (.bytes is) H:=by
 show (match H[k]? with
   |some (.cw b)=>du.ok (SV.bytes b) H
   |some (.list vs)=>(match bT vs with
    |some l=>if lJ l then .ok (.bytes l) H else .bad
    |none=> .bad)
   |_=> .bad)=_
 rw [h]
 dsimp only
 rw [h2]
 dsimp only
 rw [h3];rfl
theorem wS {n:Int}(h0:0<=n)(h1:n<128)(d:Nat)(H:HP):run P (d+1) 3 [.int n] H= .ok (.bytes [n]) (H++ [.list [.int n]]):=
 aE rfl rfl (aY (eZ (cM (dM (an rfl rfl (qE (bf h0))) (dM (an rfl rfl (gv (bf h1))) fN))) (aY (bK (bu (aa (bG (aa rfl af)) af) (cJ (dU ..) rfl (kD h0 (Int.lt_trans h1 (by decide)))))))))
theorem vJ (a b:Nat):Builtin.bitOr (a:Int) (b:Int)=((a|||b:Nat):Int):=by
 have ha:decide (0<=Builtin.bitNot (a:Int))=false:=aQ (by unfold Builtin.bitNot;lia)
 have hb:decide (0<=Builtin.bitNot (b:Int))=false:=aQ (by unfold Builtin.bitNot;lia)
 have ea:(Builtin.bitNot (Builtin.bitNot (a:Int))).toNat=a:=by unfold Builtin.bitNot;lia
 have eb:(Builtin.bitNot (Builtin.bitNot (b:Int))).toNat=b:=by unfold Builtin.bitNot;lia
 unfold Builtin.bitOr Builtin.bitAnd
 rw [ha,hb]
 dsimp only
 rw [ea,eb]
 unfold Builtin.bitNot
 lia
theorem B2 {n:Int}(h0:128<=n)(h1:n<16384):Builtin.bitOr (Builtin.bitAnd n 127) 128=n%128+128/\n/2^(7:Int).toNat=n/128:=by
 obtain ⟨k,rfl⟩:=Int.eq_ofNat_of_zero_le (show 0<=n by exact iJ ‹_› rfl)
 have e1:Builtin.bitAnd (k:Int) 127=((k&&&127:Nat):Int):=rfl
 have e2:k&&&127=k%128:=Nat.and_two_pow_sub_one_eq_mod k 7
 have e3:Builtin.bitOr ((k%128:Nat):Int) 128=((k%128|||128:Nat):Int):=vJ _ 128
 have e4:k%128|||128=128+k%128:=by
  have:=Nat.two_pow_add_eq_or_of_lt (i:=7) (b:=k%128) (by exact Nat.mod_lt _ (lE rfl)) 1
  rw [Nat.or_comm]
  simpa using this.symm
 refine ⟨?_,rfl⟩
 rw [e1,e2,e3,e4]
 lia
theorem tm {n:Int}{most:Int}(h0:128<=n)(h1:n<16384)(hm:n<=most)(d:Nat)(H:HP):run P (d+1) 1 [.int n, .int most] H= .ok (.bytes [n%128+128,n/128]) (H++ [.cw [n%128+128,n/128]]):=by
 obtain ⟨g1,g2⟩:=B2 h0 h1
 refine aE rfl rfl (ae (cD (fC (da (an rfl rfl (gv (aQ (by lia)))) (da (an rfl rfl (jG (aQ (by exact iR ‹_›)))) fc))) aj) ?_)
 refine ae (bJ rfl) ?_
 refine ae (Xf (an rfl rfl (qE (bf h0))) (ae (bX (aw rfl (bN nQ) (aa rfl af) (Gm nQ (x:=Builtin.bitOr (Builtin.bitAnd n 127) 128) (by lia) (by lia) (by decide)))) (ae (su rfl rfl rfl) aj)) (U3 (an rfl rfl (qE (aQ ?_))))) ?_
 ·rw [g2];lia
 rw [g1,g2,x4]
 refine ae (bX (aw rfl (bN nQ) (aa rfl af) (Gm nQ (x:=n/128) (by lia) (by lia) (by show 1<4096;decide)))) ?_
 rw [x4]
 exact aY (bK (bu (aa rfl af) (tC nQ)))
theorem wU {n:Int}(h0:128<=n)(h1:n<16384)(d:Nat)(H:HP):run P (d+2) 3 [.int n] H= .ok (.bytes [n%128+128,n/128]) (H++ [.cw [n%128+128,n/128]]):=
 aE rfl rfl (ae (cD (cM (dM (an rfl rfl (qE (bf (by exact iJ ‹_› rfl)))) (iz (an rfl rfl (gv (aQ (by exact iR ‹_›))))))) aj) (aY (bK (cz (aa rfl (aa rfl af)) (tm h0 h1 (by exact iD ‹_› rfl) d H)))))
noncomputable def vb (n:Int):By:=if n<128 then [n] else [n%128+128,n/128]
theorem jy (n:Int):(vb n).length<=2:=by
 unfold vb;split<;>simp
theorem yC {n:Int}(h0:0<=n)(h1:n<16384)(d:Nat)(H:HP):∃G,run P (d+2) 3 [.int n] H= .ok (.bytes (vb n)) (H++G):=by
 unfold vb
 by_cases h:n<128
 ·rw [if_pos h];exact ⟨_,wS h0 h (d+1) H⟩
 ·rw [if_neg h];exact ⟨_,wU (Int.not_lt.mp h) h1 d H⟩
theorem ul {n:Int}(h0:0<=n)(h1:n<128)(d:Nat)(H:HP):run P (d+1) 5 [.int n] H= .ok (.bytes [n]) (H++ [.list [.int n]]):=
 aE rfl rfl (aY (eZ (cM (dM (an rfl rfl (qE (bf h0))) (dM (an rfl rfl (gv (bf h1))) fN))) (aY (bK (bu (aa (bG (aa rfl af)) af) (cJ (dU ..) rfl (kD h0 (Int.lt_trans h1 (by decide)))))))))
section
variable {H G:HP}{a b:SO}{fs:List (Nat×SV)}{c i:Nat}{v:SV}
theorem tA (hf:P.field c i=true)(hl:fs.length<100):bD P (.ref H.length) i v (H++ .inst c fs::G)=some (H++ .inst c (km i v fs)::G):=by
 unfold bD
 dsimp only
 rw [nQ]
 dsimp only
 rw [if_pos ⟨hf,hl⟩,x4]
theorem nf:(H++a::G)++G' =H++a::(G++G'):=by rw [bZ,List.cons_append]
theorem Ox:(H++a::b::G)++G' =H++a::b::(G++G'):=by rw [bZ,List.cons_append,List.cons_append]
end
noncomputable def Sk (H0:HP)(bs:By)(H:HP):Prop:=∃G,H=H0++ .inst 10 [(45, .ref (H0.length+1))]:: .cw bs::G
theorem uc (d:Nat)(l:cR)(H:HP):∃H',bj P (run P (d+1)) (.callC 10 .nil) l H= .ok (.ref H.length) H' /\Sk H [] H' :=by
 have hp:bD P (.ref H.length) 45 (.ref (H++ [SO.inst 10 []]).length) ((H++ [SO.inst 10 []])++ [SO.cw []])=some (H++SO.inst 10 [(45, .ref (H.length+1))]:: [SO.cw []]):=by
  rw [nf,aL,tA rfl (by decide)]
  rfl
 exact ⟨_,lF af rfl (bW rfl rfl (ae (bV rfl rfl hp) aj)), [],rfl⟩
section
variable {H0 H:HP}{bs:By}{d:Nat}
theorem zM {c:By}{H' :HP}(h:Sk H0 bs H)(hl:bs.length+c.length<=big){R:au}:∃NH,dl R .pB (.ref (H0.length+1)) [.bytes c] H= .ok .none NH/\Sk H0 (bs++c) NH:=by
 obtain ⟨G,rfl⟩:=h
 exact ⟨_,QE rX hl,G,J6⟩
theorem wd {x:Int}(h:Sk H0 bs H)(h0:0<=x)(h1:x<256)(hl:bs.length<big){R:au}:∃NH,dl R .pr (.ref (H0.length+1)) [.int x] H= .ok .none NH/\Sk H0 (bs++ [x]) NH:=by
 obtain ⟨G,rfl⟩:=h
 exact ⟨_,Gm rX h0 h1 hl,G,J6⟩
theorem iM (h:Sk H0 bs H){R:au}{l:cR}{i:Nat}(hi:l[i]? =some (some (.ref H0.length))):bj P R (.attr (.loc i) 45) l H= .ok (.ref (H0.length+1)) H:=by
 obtain ⟨G,rfl⟩:=h
 exact aF (bc hi) nQ rfl
theorem zq (h:Sk H0 bs H)(m:Nat):d6 P (.ref (H0.length+1)) m H=vK (.cw bs) m:=by
 obtain ⟨G,rfl⟩:=h
 exact bN rX
theorem Sk.more (h:Sk H0 bs H)(G' :HP):Sk H0 bs (H++G'):=by
 obtain ⟨G,rfl⟩:=h
 exact ⟨_,Ox⟩
theorem gi {n:Int}(h:Sk H0 bs H)(h0:0<=n)(h1:n<16384)(hl:bs.length+2<=big):∃H',run P (d+3) 24 [.ref H0.length, .int n] H= .ok .none H' /\Sk H0 (bs++vb n) H' :=by
 by_cases q:n<128
 ·refine aZ (wd (R:=run P (d+2)) h h0 (Int.lt_trans q (by decide)) (Nat.lt_of_lt_of_le (Nat.lt_add_of_pos_right (by decide)) hl)) λH' e s=> ?_
  refine ⟨H',bW rfl rfl (ae (eZ (cM (dM (an rfl rfl (qE (bf h0))) (dM (an rfl rfl (gv (bf q))) fN))) (ae (bX (aw (iM h rfl) (zq h 1) (aa rfl af) e)) aj)) aj), ?_⟩
  unfold vb
  rw [if_pos q];exact s
 ·obtain ⟨G,e1⟩:=yC h0 h1 d H
  refine aZ (zM (R:=run P (d+2)) (H' :=H) (h.more G) (cy (Nat.add_le_add_left (jy n) _) hl)) λH' e s=> ?_
  exact ⟨H',bW rfl rfl (ae (cD (cM (dM (an rfl rfl (qE (bf h0))) (iz (an rfl rfl (gv (aQ q)))))) (ae (bX (aw (iM h rfl) (zq h 23) (aa (cz (aa rfl af) e1) af) e)) aj)) aj),s⟩
theorem pQ:Mine.bH Bi.len [.bytes b] H= .ok (.int b.length) H:=rfl
theorem iU {b:By}(h:Sk H0 bs H)(hb:b.length<128)(hl:bs.length+200<=big):∃H',run P (d+2) 27 [.ref H0.length, .bytes b] H= .ok .none H' /\Sk H0 (bs++(b.length:Int)::b) H' :=by
 have e1:=ul (n:=b.length) (fD _) (by exact iF ‹_› rfl) d H
 obtain ⟨H1,e,s⟩:=zM (R:=run P (d+1)) (H' :=H) (c:= [(b.length:Int)]) (h.more _) (by show bs.length+1<=big;lia)
 obtain ⟨H2,e',s'⟩:=zM (R:=run P (d+1)) (H' :=H1) (c:=b) s (by rw [aL];simp;lia)
 refine ⟨H2,bW rfl rfl (ae (bX (aw (iM h rfl) (zq h 23) (aa (cz (aa (bu (aa rfl af) rfl) af) e1) af) e)) (ae (bX (aw (iM s rfl) (zq s 23) (aa rfl af) e')) aj)), ?_⟩
 rw [bZ] at s';exact s'
theorem G6 {n:Int}(h:Sk H0 bs H)(h0:0<=n)(h1:n<256)(hl:bs.length<big):∃H',run P (d+1) 28 [.ref H0.length, .int n] H= .ok .none H' /\Sk H0 (bs++ [n]) H' :=by
 refine aZ (wd (R:=run P d) h h0 h1 hl) λH' e s=> ?_
 exact ⟨H',bW rfl rfl (ae (cD (fC (da (an rfl rfl (gv (aQ (Int.not_lt.mpr h0)))) (da (an rfl rfl (jG (aQ (by lia)))) fc))) aj) (ae (bX (aw (iM h rfl) (zq h 1) (aa rfl af) e)) aj)),s⟩
theorem rV (h:Sk H0 bs H)(hl:bs.length<big):∃H',run P (d+1) 29 [.ref H0.length, .bool b] H= .ok .none H' /\Sk H0 (bs++ [if b then 1 else 0]) H' :=by
 cases b with
 |true=>
  refine aZ (wd (R:=run P d) h (x:=1) (by decide) (by decide) hl) λH' e s=> ?_
  exact ⟨H',bW rfl rfl (ae (eZ rfl (ae (bX (aw (iM h rfl) (zq h 1) (aa rfl af) e)) aj)) aj),s⟩
 |false=>
  refine aZ (wd (R:=run P d) h (x:=0) (by decide) (by decide) hl) λH' e s=> ?_
  exact ⟨H',bW rfl rfl (ae (cD rfl (ae (bX (aw (iM h rfl) (zq h 1) (aa rfl af) e)) aj)) aj),s⟩
theorem oZ (h:Sk H0 bs H):run P (d+1) 31 [.ref H0.length] H= .ok (.bytes bs) H:=by
 have e1:=iM (R:=run P d) (l:= [some (.ref H0.length)]) (i:=0) h rfl
 obtain ⟨G,rfl⟩:=h
 exact aE rfl rfl (aY (bK (bu (aa e1 af) (tC rX))))
end
section
variable {R:au}{l l1 l' :cR}{H H1 H2 H3 H' :HP}{b:cA}{e e1 e2:SE}{v x y z:SV}{o:cQ}{i k m n:Nat}{is:List Nat}{body:cR->HP->cQ}
theorem f_ (h:bj P R e l H= .ok v H1)(h2:forLoop is (λl H=>aK P R b l H) v (fa v H1+1) 0 l H1=o):gJ P R (.jd is e b) l H=o:=by
 show (bj P R e l H).then l _=_
 rw [h];exact h2
theorem fA (h:ct v k H=some (some x))(h2:kH l is x=some l1)(h3:body l1 H= .next l' H')(h4:forLoop is body v n (k+1) l' H' =o):forLoop is body v (n+1) k l H=o:=by
 rw [gj]
 rw [h]
 dsimp only
 rw [h2]
 dsimp only
 rw [h3];exact h4
theorem FC (h:ct v k H=some (some x))(h2:kH l is x=some l1)(h3:body l1 H= .cont l' H')(h4:forLoop is body v n (k+1) l' H' =o):forLoop is body v (n+1) k l H=o:=by
 rw [gj]
 rw [h]
 dsimp only
 rw [h2]
 dsimp only
 rw [h3];exact h4
theorem OC (h:ct v k H=some (some x))(h2:kH l is x=some l1)(h3:body l1 H= .ret y H'):forLoop is body v (n+1) k l H= .ret y H' :=by
 rw [gj]
 rw [h]
 dsimp only
 rw [h2]
 dsimp only
 rw [h3]
theorem jr (h:ct v k H=some none):forLoop is body v (n+1) k l H= .next l H:=by
 rw [gj]
 rw [h]
theorem Hs (h:bj P R e l H= .ok x H1)(h2:bj P R e1 l H1= .ok y H2)(h3:bj P R e2 l H2= .ok z H3){o:du SV}(h4:f8 x y z H3=o):bj P R (.slice e e1 e2) l H=o:=by
 show (bj P R e l H).bind _=_
 rw [h]
 show (bj P R e1 l H1).bind _=_
 rw [h2]
 show (bj P R e2 l H2).bind _=_
 rw [h3];exact h4
theorem fU (h:bj P R e l H= .ok x H1)(h2:bj P R e1 l H1= .ok y H2)(h3:bU op x y H2=some q):bj P R (.cmp op e e1) l H= .ok (.bool q) H2:=by
 show (bj P R e l H).bind _=_
 rw [h]
 show (bj P R e1 l H1).bind _=_
 rw [h2]
 show (ff (bU op x y H2) H2).bind _=_
 rw [h3];rfl
theorem AI {a c:Int}(h:bj P R e l H= .ok x H1)(h2:eC x i H1= .ok (.int a) H1)(h3:bj P R e1 l H1= .ok (.int c) H2)(h4:cF op (.int a) (.int c) H2= .ok v H2)(h5:bD P x i v H2=some H3):gJ P R (.sK e i op e1) l H= .next l H3:=by
 show (bj P R e l H).then l _=_
 rw [h]
 show (eC x i H1).then l _=_
 rw [h2]
 show (bj P R e1 l H1).then l _=_
 rw [h3]
 show (cF op (.int a) (.int c) H2).then l _=_
 rw [h4]
 show (match bD P x i v H2 with|some H=>cQ.next l H|none=> .bad)=_
 rw [h5]
theorem qC {c:Nat}(h:bj P R e l H= .ok .text H1):gJ P R (.raise c e) l H= .jp c H1:=by
 show (bj P R e l H).then l _=_
 rw [h];rfl
end
theorem Bx (k:Nat)(hk:(k:Int)<10):ct (.range 0 10) k H=some (some (.int (0+(k:Int)))):=congrArg some (if_pos (by lia))
theorem i8 {x:Int}:dH (.bytes (pre++x::aI)) (.int pre.length) H= .ok (.int x) H:=by
 show (if cP (pre.length:Int) (pre++x::aI).length then du.ok (SV.int ((pre++x::aI).getD (cu (pre.length:Int) (pre++x::aI).length) 0)) H else .bad)=_
 have h1:cP (pre.length:Int) (pre++x::aI).length=true:=by
  unfold cP
  rw [aL,dq,bf (by lia),bf (by lia)];rfl
 have h2:cu (pre.length:Int) (pre++x::aI).length=pre.length:=by
  unfold cu
  rw [if_pos (fD _)];rfl
 rw [if_pos h1,h2,List.getD_eq_getElem?_getD,eJ (bS _),Nat.sub_self];rfl
theorem Cn {x:Int}:bU .lt (.int pre.length) (.int (pre++x::aI).length) H=some true:=gv (bf (by rw [aL,dq];lia))
theorem Gp {x:Int}:bU .ge (.int pre.length) (.int (pre++x::aI).length) H=some false:=qE (aQ (by rw [aL,dq];lia))
theorem mJ {x:Int}:pre++x::aI=(pre++ [x])++aI:=by rw [bZ];rfl
theorem mI {x:Int}:((pre.length:Int)+1)=((pre++ [x]).length:Int):=by rw [aL];rfl
theorem zC {n:Int}(h0:128<=n)(h1:n<16384):Builtin.bitOr 0 (Builtin.bitAnd (n%128+128) 127*2^(0:Int).toNat)=n%128/\Builtin.bitOr (n%128) (Builtin.bitAnd (n/128) 127*2^(7:Int).toNat)=n/\(Builtin.bitAnd (n%128+128) 127).natAbs<4294967296/\(Builtin.bitAnd (n/128) 127).natAbs<4294967296:=by
 obtain ⟨k,rfl⟩:=Int.eq_ofNat_of_zero_le (show 0<=n by exact iJ ‹_› rfl)
 have a1:((k:Int)%128+128)=((k%128+128:Nat):Int):=by lia
 have a2:((k:Int)/128)=((k/128:Nat):Int):=by lia
 have a3:((k:Int)%128)=((k%128:Nat):Int):=by lia
 have e1:Builtin.bitAnd ((k%128+128:Nat):Int) 127=(((k%128+128)&&&127:Nat):Int):=rfl
 have e2:(k%128+128)&&&127=k%128:=(Nat.and_two_pow_sub_one_eq_mod _ 7).trans (by lia)
 have e3:Builtin.bitAnd ((k/128:Nat):Int) 127=((k/128&&&127:Nat):Int):=rfl
 have e4:k/128&&&127=k/128:=(Nat.and_two_pow_sub_one_eq_mod _ 7).trans (by lia)
 have e5:k%128|||k/128*128=k:=by
  have:=Nat.two_pow_add_eq_or_of_lt (i:=7) (b:=k%128) (by exact Nat.mod_lt _ (lE rfl)) (k/128)
  rw [Nat.or_comm]
  have z:2^7*(k/128)=k/128*128:=Nat.mul_comm _ _
  rw [<-z,<-this]
  lia
 rw [a1,a2,a3,e1,e2,e3,e4]
 refine ⟨?_, ?_,by lia,by lia⟩
 ·rw [show ((k%128:Nat):Int)*2^(0:Int).toNat=((k%128:Nat):Int) from Int.mul_one _]
  exact (vJ 0 _).trans (by rw [Nat.zero_or])
 ·rw [show ((k/128:Nat):Int)*2^(7:Int).toNat=((k/128*128:Nat):Int) from rfl]
  exact (vJ _ _).trans (by rw [e5])
theorem ux {n:Int}(h0:128<=n)(h1:n<16384)(d:Nat)(H:HP):
  run P (d+1) 2 [.bytes (pre++(n%128+128)::n/128::aI), .int pre.length, .int 10, .int 18446744073709551615] H= .ok (.tuple [.int n, .int (pre.length+1+1)]) H:=by
 refine SD (zC h0 h1) λg1 g2 g3 g4=> ?_
 have hq:(pre++(n%128+128)::n/128::aI)=(pre++ [n%128+128])++n/128::aI:=mJ
 refine aE rfl rfl (ae (cD (an rfl rfl (gv (aQ (Int.not_lt.mpr (fD _))))) aj) (ae (bJ rfl) (ae (bJ rfl) (aY (f_ (v:= .range 0 10) rfl ?_)))))
 have s1:cF .shl (.int (Builtin.bitAnd (n%128+128) 127)) (.int 0) H= .ok (.int (Builtin.bitAnd (n%128+128) 127*2^(0:Int).toNat)) H:=if_pos ⟨by decide,by decide,g3⟩
 have s2:cF .shl (.int (Builtin.bitAnd (n/128) 127)) (.int 7) H= .ok (.int (Builtin.bitAnd (n/128) 127*2^(7:Int).toNat)) H:=if_pos ⟨by decide,by decide,g4⟩
 refine fA (l' := [some (.bytes (pre++(n%128+128)::n/128::aI)),some (.int (pre.length+1)),some (.int 10),some (.int 18446744073709551615),some (.int (n%128)),some (.int 7),some (.int 0),some (.int (n%128+128))])
  (Bx 0 (by decide)) rfl (ae (cD (an rfl rfl Gp) aj) (ae (bJ (aN rfl rfl i8)) (ae (su (a:=pre.length) (c:=1) rfl rfl rfl)
  (ae (su (a:=0) (v:= .int (n%128)) rfl (aJ (aJ rfl rfl rfl) rfl s1) (congrArg (λz=>du.ok (SV.int z) H) g1)) (ae (cD (an rfl rfl (gv (aQ (by lia)))) aj) (ae (su (a:=0) (c:=7) rfl rfl rfl) aj)))))) ?_
 refine OC (Bx 1 (by decide)) rfl ?_
 refine ae (cD (an (x:= .int (pre.length+1)) rfl rfl (qE (aQ (by rw [aL,dq,dq];lia)))) aj) (ae (bJ (v:= .int (n/128)) (aN (x:= .bytes (pre++(n%128+128)::n/128::aI)) (y:= .int (pre.length+1)) rfl rfl ?_)) (ae (su (a:=pre.length+1) (c:=1) rfl rfl rfl)
  (ae (su (a:=n%128) (v:= .int n) rfl (aJ (aJ rfl rfl rfl) rfl s2) (congrArg (λz=>du.ok (SV.int z) H) g2)) (aY (eZ (an rfl rfl (gv (bf (by lia)))) (ae (cD (an rfl rfl (jG (aQ (by lia)))) aj) (aY (bK (db (aa rfl (aa rfl af)))))))))))
 rw [hq,mI]
 exact i8
theorem KV {n:Nat}:bU .ge (.int (n:Int)) (.int 0) H=some true:=qE (bf (fD _))
theorem uq {n:Int}(h0:128<=n)(h1:n<16384)(d:Nat)(H:HP):
  run P (d+2) 4 [.bytes (pre++(n%128+128)::n/128::aI), .int pre.length] H= .ok (.tuple [.int n, .int (pre.length+1+1)]) H:=
 aE rfl rfl (ae (cD (cM (dM (an rfl rfl KV) (dM (an rfl rfl Cn) (iz (an (aN rfl rfl i8) rfl (gv (aQ (by lia)))))))) aj) (aY (bK (cz (aa rfl (aa rfl (aa rfl (aa rfl af)))) (ux h0 h1 d H)))))
theorem rm {n:Int}(h0:0<=n)(h1:n<128)(d:Nat)(H:HP):
  run P (d+1) 6 [.bytes (pre++n::aI), .int pre.length] H= .ok (.tuple [.int n, .int (pre.length+1)]) H:=
 aE rfl rfl (aY (eZ (cM (dM (an rfl rfl KV) (dM (an rfl rfl Cn) (dM (an (aN rfl rfl i8) rfl (gv (bf h1))) fN)))) (aY (bK (db (aa (aN rfl rfl i8) (aa rfl af)))))))
noncomputable def Cu (H0:HP)(pre aI:By)(H:HP):Prop:=∃G,H=H0++ .inst 9 [(15, .bytes (pre++aI)),(4, .int pre.length)]::G
section
variable {H0 H:HP}{pre aI:By}{d:Nat}
theorem hF (h:Cu H0 pre aI H){R:au}{i:Nat}(hi:l[i]? =some (some (.ref H0.length))):bj P R (.attr (.loc i) 15) l H= .ok (.bytes (pre++aI)) H:=by
 obtain ⟨G,rfl⟩:=h
 exact aF (bc hi) nQ rfl
theorem nE (h:Cu H0 pre aI H){R:au}{i:Nat}(hi:l[i]? =some (some (.ref H0.length))):bj P R (.attr (.loc i) 4) l H= .ok (.int pre.length) H:=by
 obtain ⟨G,rfl⟩:=h
 exact aF (bc hi) nQ rfl
theorem pK {n:Int}(h:Cu H0 pre aI H)(e:pre++aI=p++r)(hn:n=p.length):∃H',bD P (.ref H0.length) 4 (.int n) H=some H' /\Cu H0 p r H' :=by
 obtain ⟨G,rfl⟩:=h
 refine ⟨_,tA rfl (show 2<100 by decide),G, ?_⟩
 rw [e,hn];rfl
theorem wb (R:au)(l:cR)(i:Nat)(hi:l[i]? =some (some (.bytes b)))(H:HP):∃H',bj P (run P (d+1)) (.callC 9 (.cons (.loc i) .nil)) l H= .ok (.ref H.length) H' /\Cu H [] b H' :=by
 have h1:bD P (.ref H.length) 15 (.bytes b) (H++ [SO.inst 9 []])=some (H++SO.inst 9 [(15, .bytes b)]:: []):=tA rfl (by decide)
 have h2:bD P (.ref H.length) 4 (.int 0) (H++SO.inst 9 [(15, .bytes b)]:: [])=some (H++SO.inst 9 [(15, .bytes b),(4, .int 0)]:: []):=tA rfl (show 1<100 by decide)
 exact ⟨_,lF (aa (bc hi) af) rfl (bW rfl rfl (ae (cD (fC (da (an rfl rfl (gv rfl)) (da (an rfl (bu (aa rfl af) rfl) (jG (aQ (Int.not_lt.mpr (fD _))))) fc))) aj) (ae (bV rfl rfl h1) (ae (bV rfl rfl h2) aj)))), [],rfl⟩
theorem jk {n:Int}(h:Cu H0 pre (vb n++aI) H)(h0:0<=n)(h1:n<16384):∃H',run P (d+3) 15 [.ref H0.length] H= .ok (.int n) H' /\Cu H0 (pre++vb n) aI H' :=by
 have e0:=nE (R:=run P (d+2)) (l:= [some (.ref H0.length),none,none]) (i:=0) h rfl
 have e1:=hF (R:=run P (d+2)) (l:= [some (.ref H0.length),some (.int pre.length),none]) (i:=0) h rfl
 by_cases q:n<128
 ·have hv:vb n= [n]:=if_pos q
  rw [hv] at h e1⊢
  refine aZ (pK (n:=(pre.length:Int)+1) h (p:=pre++ [n]) (r:=aI) (bZ ..).symm mI) λH' e2 s=> ?_
  have e3:=hF (R:=run P (d+2)) (l:= [some (.ref H0.length),some (.int pre.length),none]) (i:=0) s rfl
  rw [bZ] at e3
  exact ⟨H',aE rfl rfl (ae (bJ (nE h rfl)) (aY (eZ (cM (dM (an rfl (bu (aa e1 af) rfl) Cn) (dM (an (aN e1 rfl i8) rfl (gv (bf q))) fN))) (ae (bV (aJ rfl rfl rfl) rfl e2) (aY (bK (aN e3 rfl i8))))))),s⟩
 ·have hv:vb n= [n%128+128,n/128]:=if_neg q
  rw [hv] at h e1⊢
  have q' :=Int.not_lt.mp q
  obtain ⟨H',e2,s⟩:=pK (n:=(pre.length:Int)+1+1) h (p:=pre++ [n%128+128,n/128]) (r:=aI) (bZ ..).symm (by rw [aL];rfl)
  exact ⟨H',aE rfl rfl (ae (bJ (nE h rfl)) (ae (cD (cM (dM (an rfl (bu (aa e1 af) rfl) Cn) (iz (an (aN e1 rfl i8) rfl (gv (aQ (by lia))))))) aj) (ae (lz (cz (aa e1 (aa rfl af)) (uq q' h1 d H)) rfl) (ae (bV rfl rfl e2) (aY (bK rfl)))))),s⟩
theorem wg (h:Cu H0 pre ((if b then 1 else 0)::aI) H):∃H',run P (d+1) 20 [.ref H0.length] H= .ok (.bool b) H' /\Cu H0 (pre++ [if b then 1 else 0]) aI H' :=by
 have e0:=nE (R:=run P d) (l:= [some (.ref H0.length),none]) (i:=0) h rfl
 have e1:=hF (R:=run P d) (l:= [some (.ref H0.length),none]) (i:=0) h rfl
 refine aZ (pK (n:=(pre.length:Int)+1) h (p:=pre++ [if b then 1 else 0]) (r:=aI) mJ mI) λH' e2 s=> ?_
 have e4:eC (.ref H0.length) 4 H= .ok (.int pre.length) H:=by
  obtain ⟨G,rfl⟩:=h
  unfold eC
  dsimp only
  rw [nQ];rfl
 refine ⟨H',aE rfl rfl (ae (cD (an e0 (bu (aa e1 af) rfl) Gp) aj) (ae (bJ (aN e1 e0 i8)) (ae (cD (an rfl rfl (jG (aQ (by cases b<;>decide)))) aj) (ae (AI rfl e4 rfl rfl e2) (aY (bK (fU rfl rfl ?_))))))),s⟩
 cases b<;>rfl
theorem JL {pre b aI:By}:lI (pre++(b++aI)) (.int pre.length) (.int (pre.length+b.length))=some b:=by
 have h0:(0:Int)<=pre.length/\(0:Int)<=(pre.length:Int)+b.length:=⟨fD _,by lia⟩
 unfold lI
 dsimp only
 rw [if_pos h0]
 have h1:((pre.length:Int)+b.length).toNat=pre.length+b.length:=by lia
 rw [h1,List.take_length_add_append,Int.toNat_natCast,List.drop_left',List.take_left']
 ·rfl
 ·rfl
theorem tF {b:By}{pre aI:By}(hb:b.length<128)(d:Nat)(H:HP):
  run P (d+2) 12 [.bytes (pre++(b.length:Int)::(b++aI)), .int pre.length] H= .ok (.tuple [.bytes b, .int (pre.length+1+b.length)]) H:=by
 have hc:=JL (pre:=pre++ [(b.length:Int)]) (b:=b) (aI:=aI)
 rw [<-mJ,<-mI] at hc
 have e1:f8 (.bytes (pre++(b.length:Int)::(b++aI))) (.int (pre.length+1)) (.int (pre.length+1+b.length)) H= .ok (.bytes b) H:=by
  unfold f8
  dsimp only
  rw [hc]
 refine aE rfl rfl (ae (lz (cz (aa rfl (aa rfl af)) (rm (fD _) (by exact iF ‹_› rfl) d H)) rfl) (ae (cD (an (x:= .int (pre.length+1+b.length)) (aJ rfl rfl rfl) (bu (aa rfl af) rfl) (jG (aQ ?_))) aj) (aY (bK (db (aa (bu (aa (Hs rfl rfl (aJ rfl rfl rfl) e1) af) rfl) (aa (aJ rfl rfl rfl) af)))))))
 rw [aL,dq,aL]
 lia
theorem hY (h:Cu H0 pre ((b.length:Int)::(b++aI)) H)(hb:b.length<128):∃H',run P (d+3) 18 [.ref H0.length] H= .ok (.bytes b) H' /\Cu H0 (pre++(b.length:Int)::b) aI H' :=by
 have e0:=nE (R:=run P (d+2)) (l:= [some (.ref H0.length),none,none]) (i:=0) h rfl
 have e1:=hF (R:=run P (d+2)) (l:= [some (.ref H0.length),none,none]) (i:=0) h rfl
 obtain ⟨H',e2,s⟩:=pK (n:=(pre.length:Int)+1+b.length) h (p:=pre++(b.length:Int)::b) (r:=aI) (by simp) (by rw [aL,dq];lia)
 exact ⟨H',aE rfl rfl (ae (lz (cz (aa e1 (aa e0 af)) (tF hb d H)) rfl) (ae (bV rfl rfl e2) (aY (bK rfl)))),s⟩
theorem pC (h:Cu H0 pre [] H):run P (d+1) 22 [.ref H0.length] H= .ok .none H:=by
 have e0:=nE (R:=run P d) (l:= [some (.ref H0.length)]) (i:=0) h rfl
 have e1:=hF (R:=run P d) (l:= [some (.ref H0.length)]) (i:=0) h rfl
 exact bW rfl rfl (ae (cD (an e0 (bu (aa e1 af) rfl) (gv (aQ (by rw [ch];lia)))) aj) aj)
end
noncomputable def Gr (H H' :HP):Prop:=∃G,H' =H++G
theorem Gr.refl:Gr H H:=⟨[],(ch _).symm⟩
theorem Gr.trans {H H1 H2:HP}(a:Gr H H1)(b:Gr H1 H2):Gr H H2:=by
 obtain ⟨G,rfl⟩:=a
 obtain ⟨G',rfl⟩:=b
 exact ⟨G++G',bZ ..⟩
theorem Gr.le (a:Gr H H'):H.length<=H'.length:=by
 obtain ⟨G,rfl⟩:=a
 rw [aL]
 exact gR _ _
theorem Gr.at {H H' :HP}(a:Gr H H'){k:Nat}(h:H[k]? =some o):H'[k]? =some o:=by
 obtain ⟨G,rfl⟩:=a
 rw [iT (gw h).1];exact h
noncomputable def ob (o:Option By):SV:=match o with
 |none=> .none
 |some b=> .bytes b
noncomputable def mb (o:Option By):By:=match o with
 |none=> [0]
 |some b=>1::(b.length:Int)::b
section
variable {R:au}{l l' :cR}{H H1 H' :HP}{b:cA}{c:Nat}{h:HS}{v:SV}{o:cQ}
theorem HB (e:aK P R b l H= .next l' H'):gJ P R (.lM b c h) l H= .next l' H' :=by
 show (match aK P R b l H with
  | .exc c' l H=>if c' =c then KC h l H else .bad
  | .jp _ _=> .bad
  |o=>o)=_
 rw [e]
theorem Qz (e:aK P R b l H= .ret v H'):gJ P R (.lM b c h) l H= .ret v H' :=by
 show (match aK P R b l H with
  | .exc c' l H=>if c' =c then KC h l H else .bad
  | .jp _ _=> .bad
  |o=>o)=_
 rw [e]
theorem vB (e:aK P R b l H= .exc c l' H')(e2:KC h l' H' =o):gJ P R (.lM b c h) l H=o:=by
 show (match aK P R b l H with
  | .exc c' l H=>if c' =c then KC h l H else .bad
  | .jp _ _=> .bad
  |o=>o)=_
 rw [e]
 exact (if_pos rfl).trans e2
theorem Bg {m:Nat}(h:bj P R e l H= .ok v H1){k:MK}(h2:d6 P v m H1=some k)(h3:dK P R es l H1= .ok vs H2)(h4:dl R k v vs H2= .ok (.bool q) H'):gK P R (.ez e m es) l H= .ok q H' :=by
 show ((bj P R e l H).bind λv H=>(ff (d6 P v m H) H).bind λk H=>(dK P R es l H).bind λvs H=>dl R k v vs H).bind _=_
 have z:((bj P R e l H).bind λv H=>(ff (d6 P v m H) H).bind λk H=>(dK P R es l H).bind λvs H=>dl R k v vs H)= .ok (.bool q) H' :=aw h h2 h3 h4
 rw [z];rfl
theorem Lp {i:Int}(h:bj P R e l H= .ok (.int i) H1)(h0:0<=i)(h1:i<100000):bj P R (.xK e) l H= .ok .text H1:=by
 show (bj P R e l H).bind _=_
 rw [h]
 show (if dI [.int i] then du.ok SV.text H1 else .bad)=_
 have:dI [.int i]=true:=by
  show (decide (0<=i)&&decide (i<100000)&&true)=true
  rw [bf h0,bf h1];rfl
 rw [if_pos this]
theorem MN {i:Int}(h:bj P R e l H= .ok (.int i) H1)(h0:0<=i)(h1:i<100000):bj P R (.zU e) l H= .ok .text H1:=by
 show (bj P R e l H).bind _=_
 rw [h]
 show (if dI [.int i] then du.ok SV.text H1 else .bad)=_
 have:dI [.int i]=true:=by
  show (decide (0<=i)&&decide (i<100000)&&true)=true
  rw [bf h0,bf h1];rfl
 rw [if_pos this]
theorem yX {k:Nat}(h:bj P R e l H= .exc k H'):gJ P R (.expr e) l H= .exc k l H' :=by
 show (bj P R e l H).then l _=_
 rw [h];rfl
theorem O7 {k:Nat}(h:bj P R e l H= .exc k H'):gJ P R (.ret e) l H= .exc k l H' :=by
 show (bj P R e l H).then l _=_
 rw [h];rfl
end
section
variable {H0 H:HP}{bs:By}{d:Nat}
theorem Sk.gr (h:Sk H0 bs H):Gr H0 H:=by obtain ⟨G,rfl⟩:=h;exact ⟨_,rfl⟩
theorem fy (h:Sk H0 bs H)(m:Nat):d6 P (.ref H0.length) m H=vK (.inst 10 [(45, .ref (H0.length+1))]) m:=by
 obtain ⟨G,rfl⟩:=h
 exact bN nQ
theorem tP (h:Sk H0 bs H)(ho:∀b,o=some b->b.length<128)(hl:bs.length+300<=big):∃H',run P (d+3) 60 [.ref H0.length,ob o] H= .ok .none H' /\Sk H0 (bs++mb o) H' :=by
 cases o with
 |none=>
  refine aZ (rV (d:=d+1) (b:=false) h (by lia)) λH1 e1 s1=> ?_
  exact ⟨H1,bW rfl rfl (ae (bX (aw rfl (fy h 26) (aa (fU rfl rfl rfl) af) e1)) (ae (cD (an rfl rfl rfl) aj) aj)),s1⟩
 |some b=>
  have hb:=ho b rfl
  refine aZ (rV (d:=d+1) (b:=true) h (by lia)) λH1 e1 s1=> ?_
  obtain ⟨H2,e2,s2⟩:=iU (d:=d) s1 hb (by rw [aL];simp;lia)
  refine ⟨H2,bW rfl rfl (ae (bX (aw rfl (fy h 26) (aa (fU rfl rfl rfl) af) e1)) (ae (eZ (an rfl rfl rfl) (ae (bX (aw rfl (fy s1 37) (aa rfl af) e2)) aj)) aj)), ?_⟩
  rw [bZ] at s2;exact s2
end
theorem jW {o:Option By}{code:Int}(h0:0<=code)(h1:code<256)(ho:∀b,o=some b->b.length<128)(d:Nat)(H:HP):∃H',run P (d+4) 63 [.int code,ob o] H= .ok (.bytes (code::mb o)) H' /\Gr H H' :=by
 refine aZ (uc (d+2) [some (.int code),some (ob o),none] H) λH1 e1 s1=> ?_
 refine aZ (G6 (d:=d+2) s1 h0 h1 (by decide)) λH2 e2 s2=> ?_
 obtain ⟨H3,e3,s3⟩:=tP (d:=d) s2 ho (by show 1+300<=4096;exact lE rfl)
 refine ⟨H3,aE rfl rfl (ae (bJ e1) (ae (bX (aw rfl (fy s1 42) (aa rfl af) e2)) (ae (bX (cz (aa rfl (aa rfl af)) e3)) (aY (bK (aw rfl (fy s3 19) af (oZ (d:=d+2) s3))))))),s3.gr⟩
theorem rC {aW:Int}{op:Bool}(h0:0<=aW)(h1:aW<16384)(hr:dh.length<128)(d:Nat)(H:HP):
  ∃H',run P (d+4) 67 [.int aW, .bool op, .bytes dh] H= .ok (.bytes (vb aW++(if op then 1 else 0)::(dh.length:Int)::dh)) H' /\Gr H H' :=by
 refine aZ (uc (d+2) [some (.int aW),some (.bool op),some (.bytes dh),none] H) λH1 e1 s1=> ?_
 refine aZ (gi (d:=d) s1 h0 h1 (by decide)) λH2 e2 s2=> ?_
 have hv:=jy aW
 obtain ⟨H3,e3,s3⟩:=rV (d:=d+2) (b:=op) s2 (by show (vb aW).length<4096;exact lC ‹_› rfl)
 obtain ⟨H4,e4,s4⟩:=iU (d:=d+1) (b:=dh) s3 hr (by rw [aL];show (vb aW).length+1+200<=4096;lia)
 have e5:=oZ (d:=d+2) s4
 rw [show ([]++vb aW++ [if op then 1 else 0]++(dh.length:Int)::dh)=(vb aW++(if op then 1 else 0)::(dh.length:Int)::dh) from (bZ ..).trans rfl] at e5
 exact ⟨H4,aE rfl rfl (ae (bJ e1) (ae (bX (aw rfl (fy s1 64) (aa rfl af) e2)) (ae (bX (aw rfl (fy s2 26) (aa rfl af) e3)) (ae (bX (aw rfl (fy s3 37) (aa rfl af) e4)) (aY (bK (aw rfl (fy s4 19) af e5))))))),s4.gr⟩
section
variable {H0 H:HP}{pre aI:By}{d:Nat}
theorem Cu.gr (h:Cu H0 pre aI H):Gr H0 H:=by obtain ⟨G,rfl⟩:=h;exact ⟨_,rfl⟩
theorem eU (h:Cu H0 pre aI H)(m:Nat):d6 P (.ref H0.length) m H=vK (.inst 9 [(15, .bytes (pre++aI)),(4, .int pre.length)]) m:=by
 obtain ⟨G,rfl⟩:=h
 exact bN nQ
end
theorem lw {aW:Int}{op:Bool}(h0:0<=aW)(h1:aW<16384)(hr:dh.length<128)(d:Nat)(H:HP):
  ∃H',run P (d+4) 68 [.bytes (vb aW++(if op then 1 else 0)::(dh.length:Int)::dh)] H= .ok (.tuple [.int aW, .bool op, .bytes dh]) H' /\Gr H H' :=by
 refine aZ (wb (d:=d+2) (b:=vb aW++(if op then 1 else 0)::(dh.length:Int)::dh) (run P (d+3)) [some (.bytes (vb aW++(if op then 1 else 0)::(dh.length:Int)::dh)),none,none,none,none] 0 rfl H) λH1 e1 s1=> ?_
 refine aZ (jk (d:=d) s1 h0 h1) λH2 e2 s2=> ?_
 refine aZ (wg (d:=d+2) s2) λH3 e3 s3=> ?_
 rw [show (dh.length:Int)::dh=(dh.length:Int)::(dh++ []) by rw [ch]] at s3
 refine aZ (hY (d:=d) s3 hr) λH4 e4 s4=> ?_
 exact ⟨H4,aE rfl rfl (ae (bJ e1) (ae (bJ (aw rfl (eU s1 64) af e2)) (ae (bJ (aw rfl (eU s2 26) af e3)) (ae (bJ (aw rfl (eU s3 37) af e4)) (ae (bX (aw rfl (eU s4 19) af (pC (d:=d+2) s4))) (aY (bK (db (aa rfl (aa rfl (aa rfl af))))))))))),s4.gr⟩
structure iX where
 kind:Int
 d7:Int
 number:Int
 key:By
 value:By
 expect:Option By
noncomputable def iX.so (c:iX):SO:= .inst 14 [(32, .int c.kind),(9, .int c.d7),(41, .int c.number),(31, .bytes c.key),(63, .bytes c.value),(22,ob c.expect)]
noncomputable def iX.enc (c:iX):By:=vb c.kind++(vb c.d7++(vb c.number++((c.key.length:Int)::c.key++((c.value.length:Int)::c.value++mb c.expect))))
structure iX.Ok (c:iX):Prop where
 k0:0<=c.kind
 k1:c.kind<128
 c0:0<=c.d7
 c1:c.d7<16384
 n0:0<=c.number
 n1:c.number<16384
 key:c.key.length<128
 val:c.value.length<128
 exp:∀b,c.expect=some b->b.length<128
theorem N3 {c:Nat}:(H++ [SO.inst c []])=H++SO.inst c []:: []:=rfl
theorem ja {c i:Nat}{fs fs' :List (Nat×SV)}(hf:P.field c i=true)(hl:fs.length<100)(e:km i v fs=fs'):bD P (.ref H.length) i v (H++ [.inst c fs])=some (H++ [.inst c fs']):=e▸tA hf hl
theorem BJ (c:iX)(d:Nat)(H:HP):run P (d+1) 57 [.ref H.length, .int c.kind, .int c.d7, .int c.number, .bytes c.key, .bytes c.value,ob c.expect] (H++ [.inst 14 []])= .ok .none (H++ [c.so]):=
 bW rfl rfl (ae (bV rfl rfl (ja (fs' := [(32, .int c.kind)]) rfl (show 0<100 by decide) rfl)) (ae (bV rfl rfl (ja (fs' := [(32, .int c.kind),(9, .int c.d7)]) rfl (show 1<100 by decide) rfl))
  (ae (bV rfl rfl (ja (fs' := [(32, .int c.kind),(9, .int c.d7),(41, .int c.number)]) rfl (show 2<100 by decide) rfl)) (ae (bV rfl rfl (ja (fs' := [(32, .int c.kind),(9, .int c.d7),(41, .int c.number),(31, .bytes c.key)]) rfl (show 3<100 by decide) rfl))
  (ae (bV rfl rfl (ja (fs' := [(32, .int c.kind),(9, .int c.d7),(41, .int c.number),(31, .bytes c.key),(63, .bytes c.value)]) rfl (show 4<100 by decide) rfl)) (ae (bV rfl rfl (ja rfl (show 5<100 by decide) rfl)) aj))))))
theorem Ty {n:Nat}(h:n<=1000):n+300<=big:=by show n+300<=4096;lia
theorem J8 {c:iX}(ok:c.Ok)(h6:c.kind<=6){H:HP}{r:Nat}(hr:H[r]? =some c.so)(d:Nat):∃H',run P (d+4) 59 [.ref r] H= .ok (.bytes c.enc) H' /\Gr H H' :=by
 have v1:=jy c.kind
 have v2:=jy c.d7
 have v3:=jy c.number
 have k1:=ok.key
 have k2:=ok.val
 refine aZ (uc (d+2) [some (.ref r),none] H) λH1 e1 s1=> ?_
 refine aZ (gi (d:=d) s1 ok.k0 (Int.lt_trans ok.k1 (by decide)) (by decide)) λH2 e2 s2=> ?_
 obtain ⟨H3,e3,s3⟩:=gi (d:=d) s2 ok.c0 ok.c1 (by simp only [aL,List.length_nil,big];lia)
 obtain ⟨H4,e4,s4⟩:=gi (d:=d) s3 ok.n0 ok.n1 (by simp only [aL,List.length_nil,big];lia)
 obtain ⟨H5,e5,s5⟩:=iU (d:=d+1) s4 ok.key (by simp only [aL,List.length_nil,big];lia)
 obtain ⟨H6,e6,s6⟩:=iU (d:=d+1) s5 ok.val (by simp only [aL,dq,List.length_nil,big];lia)
 obtain ⟨H7,e7,s7⟩:=tP (d:=d) s6 ok.exp (by simp only [aL,dq,List.length_nil,big];lia)
 have e8:=oZ (d:=d+2) s7
 rw [show ([]++vb c.kind++vb c.d7++vb c.number++(c.key.length:Int)::c.key++(c.value.length:Int)::c.value++mb c.expect)=c.enc by unfold iX.enc;simp only [List.nil_append,bZ]] at e8
 have q0:∀{R:au} {l:cR} {H' :HP} {a:Nat} {v:SV},Gr H H'->l[0]? =some (some (.ref r))->fO a [(32, .int c.kind),(9, .int c.d7),(41, .int c.number),(31, .bytes c.key),(63, .bytes c.value),(22,ob c.expect)]=some v->bj P R (.attr (.loc 0) a) l H' = .ok v H' :=λg hl hv=>aF (bc hl) (g.at hr) hv
 exact ⟨H7,aE rfl rfl (ae (cD (fC (da (an (q0 Gr.refl rfl rfl) rfl (gv (aQ (Int.not_lt.mpr ok.k0)))) (da (an (q0 Gr.refl rfl rfl) rfl (jG (aQ (Int.not_lt.mpr h6)))) fc))) aj) (ae (bJ e1)
  (ae (HB (ae (bX (aw rfl (fy s1 64) (aa (q0 s1.gr rfl rfl) af) e2)) (ae (bX (aw rfl (fy s2 64) (aa (q0 s2.gr rfl rfl) af) e3)) (ae (bX (aw rfl (fy s3 64) (aa (q0 s3.gr rfl rfl) af) e4))
   (ae (bX (aw rfl (fy s4 37) (aa (q0 s4.gr rfl rfl) af) e5)) (ae (bX (aw rfl (fy s5 37) (aa (q0 s5.gr rfl rfl) af) e6)) (ae (bX (cz (aa rfl (aa (q0 s6.gr rfl rfl) af)) e7)) aj)))))))
  (aY (bK (aw rfl (fy s7 19) af e8)))))),s7.gr⟩
section
variable {H0 H:HP}{pre aI:By}{d:Nat}
theorem yh (h:Cu H0 pre (mb o++aI) H)(ho:∀b,o=some b->b.length<128):∃H',run P (d+4) 61 [.ref H0.length] H= .ok (ob o) H' /\Cu H0 (pre++mb o) aI H' :=by
 cases o with
 |none=>
  refine aZ (wg (d:=d+2) (b:=false) h) λH1 e1 s1=> ?_
  exact ⟨H1,aE rfl rfl (ae (cD (Bg rfl (eU h 26) af e1) aj) (aY (bK rfl))),s1⟩
 |some b=>
  refine aZ (wg (d:=d+2) (b:=true) h) λH1 e1 s1=> ?_
  refine aZ (hY (d:=d) (aI:=aI) s1 (ho b rfl)) λH2 e2 s2=> ?_
  refine ⟨H2,aE rfl rfl (aY (eZ (Bg rfl (eU h 26) af e1) (aY (bK (aw rfl (eU s1 37) af e2))))), ?_⟩
  rw [bZ] at s2;exact s2
theorem AW (h:Cu H0 pre aI H):run P (d+1) 14 [.ref H0.length] H= .ok (.int aI.length) H:=by
 have e0:=nE (R:=run P d) (l:= [some (.ref H0.length)]) (i:=0) h rfl
 have e1:=hF (R:=run P d) (l:= [some (.ref H0.length)]) (i:=0) h rfl
 refine aE rfl rfl (aY (bK (aJ (bu (aa e1 af) rfl) e0 ?_)))
 show du.ok (SV.int (((pre++aI).length:Int) - pre.length)) H=_
 rw [aL]
 congr 2
 lia
theorem Cq {x:Int}(h:Cu H0 pre (x::r) H)(hr:r.length<90000):run P (d+2) 22 [.ref H0.length] H= .exc 2 H:=by
 have e0:=nE (R:=run P (d+1)) (l:= [some (.ref H0.length)]) (i:=0) h rfl
 have e1:=hF (R:=run P (d+1)) (l:= [some (.ref H0.length)]) (i:=0) h rfl
 refine lh rfl rfl rfl (gY (eZ (an e0 (bu (aa e1 af) rfl) Cn) (gY (qC (MN (aw rfl (eU h 36) af (AW (d:=d) h)) ?_ ?_)))))
 ·exact fD _
 ·rw [dq];lia
end
theorem Yt {a b c:By}:a++(b++c)=(a++b)++c:=(bZ ..).symm
theorem DZ (c:iX)(t:By):c.enc++t=vb c.kind++(vb c.d7++(vb c.number++((c.key.length:Int)::(c.key++((c.value.length:Int)::(c.value++(mb c.expect++t))))))):=by
 unfold iX.enc
 simp only [bZ,List.cons_append]
theorem lY {c:iX}(ok:c.Ok)(t:By)(d:Nat)(H:HP):∃H' pre,Cu H pre t H' /\∀o:cQ,(aK P (run P (d+4)) (.cons (.expr (.ez (.loc 1) 19 .nil)) .nil) [some (.bytes (c.enc++t)),some (.ref H.length),some (.int c.kind),some (.int c.d7),some (.int c.number),some (.bytes c.key),some (.bytes c.value),some (ob c.expect)] H' =o)->
  aK P (run P (d+4)) (.cons (.j3 (.name 1) (.callC 9 (.cons (.loc 0) .nil))) (.cons (.j3 (.name 2) (.ez (.loc 1) 64 .nil)) (.cons (.j3 (.name 3) (.ez (.loc 1) 64 .nil)) (.cons (.j3 (.name 4) (.ez (.loc 1) 64 .nil)) (.cons (.j3 (.name 5) (.ez (.loc 1) 37 .nil)) (.cons (.j3 (.name 6) (.ez (.loc 1) 37 .nil)) (.cons (.j3 (.name 7) (.fT 61 (.cons (.loc 1) .nil))) (.cons (.expr (.ez (.loc 1) 19 .nil)) .nil))))))))
   [some (.bytes (c.enc++t)),none,none,none,none,none,none,none] H=o:=by
 refine aZ (wb (d:=d+3) (b:=c.enc++t) (run P (d+4)) [some (.bytes (c.enc++t)),none,none,none,none,none,none,none] 0 rfl H) λH1 e1 s1=> ?_
 rw [DZ] at s1
 refine aZ (jk (d:=d+1) s1 ok.k0 (Int.lt_trans ok.k1 (by decide))) λH2 e2 s2=> ?_
 refine aZ (jk (d:=d+1) s2 ok.c0 ok.c1) λH3 e3 s3=> ?_
 refine aZ (jk (d:=d+1) s3 ok.n0 ok.n1) λH4 e4 s4=> ?_
 refine aZ (hY (d:=d+1) s4 ok.key) λH5 e5 s5=> ?_
 refine aZ (hY (d:=d+1) s5 ok.val) λH6 e6 s6=> ?_
 refine aZ (yh (d:=d) s6 ok.exp) λH7 e7 s7=> ?_
 exact ⟨H7,_,s7,λo ho=>ae (bJ e1) (ae (bJ (aw rfl (eU s1 64) af e2)) (ae (bJ (aw rfl (eU s2 64) af e3)) (ae (bJ (aw rfl (eU s3 64) af e4))
  (ae (bJ (aw rfl (eU s4 37) af e5)) (ae (bJ (aw rfl (eU s5 37) af e6)) (ae (bJ (cz (aa rfl af) e7)) ho))))))⟩
theorem Kn {c:iX}(ok:c.Ok)(h6:c.kind<=6)(d:Nat)(H:HP):∃H' k,run P (d+5) 62 [.bytes c.enc] H= .ok (.ref k) H' /\Gr H H' /\H'[k]? =some c.so:=by
 refine uy (lY ok [] d H) λH1 pre s1 core=> ?_
 rw [ch] at core
 have e1:=core _ (ae (bX (aw rfl (eU s1 19) af (pC (d:=d+3) s1))) aj)
 have e2:=BJ c (d+3) H1
 exact ⟨H1++ [c.so],H1.length,aE rfl rfl (ae (HB e1) (ae (cD (an rfl rfl (jG (aQ (Int.not_lt.mpr h6)))) aj) (aY (bK (lF (aa rfl (aa rfl (aa rfl (aa rfl (aa rfl (aa rfl af)))))) rfl e2))))),s1.gr.trans ⟨_,rfl⟩,dU ..⟩
theorem Gg {c:iX}(ok:c.Ok)(h6:6<c.kind)(d:Nat)(H:HP):∃H',run P (d+5) 62 [.bytes c.enc] H= .exc 7 H' /\Gr H H' :=by
 refine uy (lY ok [] d H) λH1 pre s1 core=> ?_
 rw [ch] at core
 have e1:=core _ (ae (bX (aw rfl (eU s1 19) af (pC (d:=d+3) s1))) aj)
 exact ⟨H1,lh rfl rfl rfl (ae (HB e1) (gY (eZ (an rfl rfl (jG (bf h6))) (gY (qC (Lp rfl ok.k0 (Int.lt_trans ok.k1 (by decide)))))))),s1.gr⟩
theorem Ei {c:iX}(ok:c.Ok)(x:Int)(d:Nat)(H:HP):∃H',run P (d+5) 62 [.bytes (c.enc++ [x])] H= .exc 7 H' /\Gr H H' :=by
 refine uy (lY ok [x] d H) λH1 pre s1 core=> ?_
 have e1:=core _ (u0 (yX (aw rfl (eU s1 19) af (Cq (d:=d+2) s1 (by decide)))))
 exact ⟨H1,lh rfl rfl rfl (gY (vB e1 rfl)),s1.gr⟩
noncomputable def cl (w:Bool):Int:=if w then 300 else 5
noncomputable def de (w:Bool):By:=if w then [115,0,0,0,0,0,0,1,44] else [115,0,0,0,0,0,0,0,5]
theorem oP {n:Int}(h0:decide (n<0)=false)(h1:decide (4294967295<n)=false)(e:bT [.int (Builtin.bitAnd n 255), .int (Builtin.bitAnd (n/2^(8:Int).toNat) 255), .int (Builtin.bitAnd (n/2^(16:Int).toNat) 255), .int (n/2^(24:Int).toNat)]=some b)(ho:lJ b=true)(d:Nat)(H:HP):
  ∃H',run P (d+1) 8 [.int n] H= .ok (.bytes b) H' /\Gr H H' :=
 ⟨_,aE rfl rfl (ae (cD (fC (da (an rfl rfl (gv h0)) (da (an rfl rfl (jG h1)) fc))) aj) (aY (bK (bu (aa (bG (aa (aJ rfl rfl rfl) (aa (aJ (aJ rfl rfl rfl) rfl rfl) (aa (aJ (aJ rfl rfl rfl) rfl rfl) (aa (aJ rfl rfl rfl) af))))) af) (cJ (dU ..) e ho))))),⟨_,rfl⟩⟩
theorem xk {n:Int}(h0:decide (n<0)=false)(h1:decide (18446744073709551615<n)=false){d:Nat}(ea:∀H,∃H',run P (d+1) 8 [.int (Builtin.bitAnd n 4294967295)] H= .ok (.bytes a) H' /\Gr H H')(eb:∀H,∃H',run P (d+1) 8 [.int (n/2^(32:Int).toNat)] H= .ok (.bytes b) H' /\Gr H H')(hl:a.length+b.length<=big)(H:HP):
  ∃H',run P (d+2) 9 [.int n] H= .ok (.bytes (a++b)) H' /\Gr H H' :=by
 refine aZ (ea H) λH1 e1 g1=> ?_
 refine aZ (eb H1) λH2 e2 g2=> ?_
 exact ⟨H2,aE rfl rfl (ae (cD (fC (da (an rfl rfl (gv h0)) (da (an rfl rfl (jG h1)) fc))) aj) (aY (bK (aJ (cz (aa (aJ rfl rfl rfl) af) e1) (cz (aa (aJ rfl rfl rfl) af) e2) (if_pos hl))))),g1.trans g2⟩
theorem kT (w:Bool)(d:Nat)(H:HP):∃H',run P (d+3) 65 [.int (cl w)] H= .ok (.bytes (de w)) H' /\Gr H H' :=by
 cases w with
 |false=>
  refine aZ (xk (n:=5) (a:= [5,0,0,0]) (b:= [0,0,0,0]) rfl rfl (oP rfl rfl rfl rfl d) (oP rfl rfl rfl rfl d) (by decide) H) λH1 e1 g1=> ?_
  exact ⟨H1++ [.list [.int 0, .int 0, .int 0, .int 0, .int 0, .int 0, .int 0, .int 5]],aE rfl rfl (ae (bJ (cz (aa rfl af) e1)) (aY (bK (aJ rfl (bu (aa (bG (aa rfl (aa rfl (aa rfl (aa rfl (aa rfl (aa rfl (aa rfl (aa rfl af))))))))) af) (cJ (dU ..) rfl rfl)) rfl)))),g1.trans ⟨_,rfl⟩⟩
 |true=>
  refine aZ (xk (n:=300) (a:= [44,1,0,0]) (b:= [0,0,0,0]) rfl rfl (oP rfl rfl rfl rfl d) (oP rfl rfl rfl rfl d) (by decide) H) λH1 e1 g1=> ?_
  exact ⟨H1++ [.list [.int 0, .int 0, .int 0, .int 0, .int 0, .int 0, .int 1, .int 44]],aE rfl rfl (ae (bJ (cz (aa rfl af) e1)) (aY (bK (aJ rfl (bu (aa (bG (aa rfl (aa rfl (aa rfl (aa rfl (aa rfl (aa rfl (aa rfl (aa rfl af))))))))) af) (cJ (dU ..) rfl rfl)) rfl)))),g1.trans ⟨_,rfl⟩⟩
theorem vE (hk:k.length<=1000)(d:Nat)(H:HP):run P (d+1) 64 [.bytes k] H= .ok (.bytes (100::k)) H:=
 aE rfl rfl (aY (bK (aJ (x:= .bytes [100]) (y:= .bytes k) rfl rfl (if_pos (by show 1+k.length<=4096;lia)))))
noncomputable def U5:List By:= [[97], [100], [100,107],de false,de true]
structure dP (U:List By)(so:SO)(D:By->Option By):Prop where
 ex:∃es,(so= .cg es∨(so= .aM/\es= []))/\(∀k,fR k es=(D k).map .bytes)/\(es.map (·.1)).Nodup/\∀k∈es.map (·.1),k∈U
noncomputable abbrev dy (so:SO)(D:By->Option By):Prop:=dP U5 so D
theorem pn (h:dP U so D)(k:By):hZ (.bytes k) so=some ((D k).map .bytes):=by
 obtain ⟨es,e|⟨e,e2⟩,h1,_⟩:=h.ex
 ·subst e;exact congrArg some (h1 k)
 ·subst e e2;exact congrArg some (h1 k)
theorem yq {K:Type}[DecidableEq K]{k:K}:∀{es:List (K×SV)} {x:K},fR x (kM k v es)=if x=k then some v else fR x es
 | [],x=>by
  show (if k=x then some v else none)=_
  by_cases q:x=k
  ·rw [if_pos q.symm,if_pos q]
  ·rw [if_neg (Ne.symm q),if_neg q];rfl
 |p::r,x=>by
  rw [AA]
  by_cases q:p.1=k
  ·rw [if_pos q]
   show (if p.1=x then some v else fR x r)=_
   by_cases z:x=k
   ·rw [if_pos (q.trans z.symm),if_pos z]
   ·rw [if_neg (λe=>z (e.symm.trans q)),if_neg z]
    show _=if p.1=x then some p.2 else fR x r
    rw [if_neg (λe=>z (e.symm.trans q))]
  ·rw [if_neg q]
   show (if p.1=x then some p.2 else fR x (kM k v r))=if x=k then some v else (if p.1=x then some p.2 else fR x r)
   rw [yq]
   by_cases z:p.1=x
   ·rw [if_pos z,if_pos z,if_neg (λe=>q (z.trans e))]
   ·rw [if_neg z,if_neg z]
theorem sx {K:Type}[DecidableEq K]{k:K}:∀{es:List (K×SV)},(kM k v es).map (·.1)=if k∈es.map (·.1) then es.map (·.1) else es.map (·.1)++ [k]
 | []=>by rw [if_neg (by simp)];rfl
 |p::r=>by
  rw [AA]
  by_cases q:p.1=k
  ·rw [if_pos q,if_pos (by rw [dZ,q];exact .head _)];rfl
  ·rw [if_neg q,dZ,sx,dZ]
   by_cases z:k∈r.map (·.1)
   ·rw [if_pos z,if_pos (.tail _ z)]
   ·rw [if_neg z,if_neg (by rw [List.mem_cons,not_or];exact ⟨Ne.symm q,z⟩)];rfl
theorem sY {K:Type}[DecidableEq K]:∀{l u:List K},l.Nodup->(∀k∈l,k∈u)->l.length<=u.length
 | [],_,_,_=>Nat.zero_le _
 |a::t,u,nd,h=>by
  have hm:=h a (.head _)
  rw [List.nodup_cons] at nd
  have:=sY (l:=t) (u:=u.erase a) nd.2 λk hk=>(List.mem_erase_of_ne (λ(e:k=a)=>nd.1 (by rw [<-e];exact hk))).mpr (h k (.tail _ hk))
  rw [List.length_erase_of_mem hm] at this
  have:=List.length_pos_of_mem hm
  rw [dq]
  lia
set_option tactic.hygienic true in
theorem yF (h:dP U so D){k b:By}(hk:k∈U)(hU:U.length<4096):∃fj,uG (.bytes k) (.bytes b) so=some fj/\dP U fj (λx=>if x=k then some b else D x):=by
 refine Kc h.ex λes e h1 h2 h3=> ?_
 have hl:es.length<big:=by
  have:=sY h2 h3
  rw [bI] at this
  exact fJ this hU
 have eR:dP U (.cg (kM k (.bytes b) es)) (λx=>if x=k then some b else D x):=by
  refine ⟨_, .inl rfl,λx=> ?_, ?_, ?_⟩
  ·rw [yq]
   by_cases q:x=k
   ·rw [if_pos q,if_pos q];rfl
   ·rw [if_neg q,if_neg q];exact h1 x
  ·rw [sx]
   split
   ·exact h2
   ·rename_i q
    exact List.nodup_append.mpr ⟨h2,by simp,λa ha c hc e=>by rw [eF hc] at e;subst e;exact q ha⟩
  ·rw [sx]
   split
   ·exact h3
   ·intro x hx
    rcases gf hx with hx|hx
    ·exact h3 x hx
    ·rw [eF hx];exact hk
 rcases e with e|⟨e,e2⟩
 ·subst e
  exact ⟨_,if_pos hl,eR⟩
 ·subst e e2
  exact ⟨_,rfl,eR⟩
theorem yK:∀{es:List (By×SV)},(es.map (·.1)).Nodup->∀x,fR x (p8 k es)=if x=k then none else fR x es
 | [],_,x=>by
  show none=_
  split<;>rfl
 |p::r,nd,x=>by
  rw [dZ,List.nodup_cons] at nd
  have off:∀{r:List (By×SV)} {y:By},y∉r.map (·.1)->fR y r=none:=λ{r y} hy=>by
   induction r with
   |nil=>rfl
   |cons q r ih=>
    rw [dZ,List.mem_cons,not_or] at hy
    show (if q.1=y then some q.2 else fR y r)=none
    rw [if_neg (Ne.symm hy.1)];exact ih hy.2
  rw [zk]
  by_cases q:p.1=k
  ·rw [if_pos q]
   by_cases z:x=k
   ·rw [if_pos z,z,<-q];exact off nd.1
   ·rw [if_neg z]
    show _=if p.1=x then some p.2 else fR x r
    rw [if_neg (λe=>z (e.symm.trans q))]
  ·rw [if_neg q]
   show (if p.1=x then some p.2 else fR x (p8 k r))=if x=k then none else (if p.1=x then some p.2 else fR x r)
   rw [yK nd.2 x]
   by_cases z:p.1=x
   ·rw [if_pos z,if_pos z,if_neg (λe=>q (z.trans e))]
   ·rw [if_neg z,if_neg z]
theorem te:∀{es:List (By×SV)},((p8 k es).map (·.1)).Sublist (es.map (·.1))
 | []=> .slnil
 |p::r=>by
  rw [zk]
  by_cases q:p.1=k
  ·rw [if_pos q];exact .cons _ (List.Sublist.refl _)
  ·rw [if_neg q];exact List.Sublist.cons_cons _ te
theorem y2 (h:dP U so D)(hk:D k=some b):∃fj,yg (.bytes k) so=some fj/\dP U fj (λx=>if x=k then none else D x):=by
 refine Kc h.ex λes e h1 h2 h3=> ?_
 have hg:(fR k es).isSome=true:=by rw [h1,hk];rfl
 rcases e with e|⟨e,e2⟩
 ·subst e
  refine ⟨_,if_pos hg,_, .inl rfl,λx=> ?_,h2.sublist te,λx hx=>h3 x (te.subset hx)⟩
  rw [yK h2]
  by_cases q:x=k
  ·rw [if_pos q,if_pos q];rfl
  ·rw [if_neg q,if_neg q];exact h1 x
 ·subst e2;cases hg
noncomputable def bF (di bi:Nat)(aU aW:Int):SO:= .inst 16 [(40, .ref di),(6, .ref bi),(30, .int aU),(33, .int aW)]
noncomputable def aX (si:Nat)(applied term:Int)(aP:By)(aO:Int)(sync:Bool):SO:= .inst 15 [(57, .ref si),(2, .int applied),(62, .int term),(11, .bytes aP),(20, .int aO),(59, .bool sync)]
section
variable {H:HP}{si di bi mi:Nat}{aU aW applied term aO:Int}{aP:By}{sync:Bool}{so:SO}{D:By->Option By}
theorem Qd {R:au}(hd:H[di]? =some so)(hD:dy so D):dl R .iV (.ref di) [.bytes k] H= .ok (ob (D k)) H:=by
 show (match H[di]? with
   |some o=>(match hZ (.bytes k) o with|some x=>du.ok (x.getD .none) H|none=> .bad)
   |none=> .bad)=_
 rw [hd]
 dsimp only
 rw [pn hD]
 cases D k<;>rfl
theorem LJ (hd:H[di]? =some so)(hD:dy so D):d6 P (.ref di) 27 H=some .iV:=by
 rw [bN hd]
 obtain ⟨es,e|⟨e,_⟩,_⟩:=hD.ex<;>subst e<;>rfl
theorem xa {k:By}(hs:H[si]? =some (bF di bi aU aW))(hd:H[di]? =some so)(hD:dy so D)(d:Nat):run P (d+1) 90 [.ref si, .bytes k] H= .ok (ob (D k)) H:=
 aE rfl rfl (aY (bK (aw (aF rfl hs rfl) (LJ hd hD) (aa rfl af) (Qd hd hD))))
noncomputable def yQ (aW:Int)(op:Bool)(dh:By):By:=vb aW++(if op then 1 else 0)::(dh.length:Int)::dh
theorem uI (hm:H[mi]? =some (aX si applied term aP aO sync))(hs:H[si]? =some (bF di bi aU aW))(hd:H[di]? =some so)(hD:dy so D)(e:D (de w)=none)(d:Nat):
  ∃H',run P (d+5) 79 [.ref mi, .int (cl w)] H= .ok (.tuple [.int (-1), .bool false, .bytes []]) H' /\Gr H H' :=by
 refine aZ (kT w (d+1) H) λH1 e1 g1=> ?_
 have e2:=xa (k:=de w) (g1.at hs) (g1.at hd) hD (d+3)
 rw [e] at e2
 exact ⟨H1,aE rfl rfl (ae (bJ (aw (q:= .fn 90) (v:= .ref si) (aF rfl hm rfl) (bN hs) (aa (cz (aa rfl af) e1) af) e2)) (aY (eZ (an rfl rfl rfl) (aY (bK rfl))))),g1⟩
theorem ue {n:Int}(hm:H[mi]? =some (aX si applied term aP aO sync))(hs:H[si]? =some (bF di bi aU aW))(hd:H[di]? =some so)(hD:dy so D)(e:D (de w)=some (yQ n op dh))(h0:0<=n)(h1:n<16384)(hr:dh.length<128)(d:Nat):
  ∃H',run P (d+5) 79 [.ref mi, .int (cl w)] H= .ok (.tuple [.int n, .bool op, .bytes dh]) H' /\Gr H H' :=by
 refine aZ (kT w (d+1) H) λH1 e1 g1=> ?_
 have e2:=xa (k:=de w) (g1.at hs) (g1.at hd) hD (d+3)
 rw [e] at e2
 refine aZ (lw (op:=op) h0 h1 hr d H1) λH2 e3 g2=> ?_
 exact ⟨H2,aE rfl rfl (ae (bJ (aw (q:= .fn 90) (v:= .ref si) (aF rfl hm rfl) (bN hs) (aa (cz (aa rfl af) e1) af) e2)) (ae (cD (an rfl rfl rfl) aj) (aY (bK (cz (aa rfl af) e3))))),g1.trans g2⟩
end
noncomputable def xA (kind:Int)(key value:By):SV:= .tuple [.int kind, .bytes key, .bytes value]
noncomputable def Wb (H0:HP)(fp:List SV)(H:HP):Prop:=∃G w,H=H0++ .inst 11 [(51, .ref (H0.length+1)),(66, .int w)]:: .list fp::G
noncomputable def Kb (H0 H H' :HP):Prop:=∀i o,i≠H0.length->i≠H0.length+1->H[i]? =some o->H'[i]? =some o
theorem Kb.trans {H0 H H1 H2:HP}(a:Kb H0 H H1)(b:Kb H0 H1 H2):Kb H0 H H2:=λi o h1 h2 e=>b i o h1 h2 (a i o h1 h2 e)
theorem Gr.kb (a:Gr H H1):Kb H0 H H1:=λi o u8 u8 e=>a.at e
theorem Ux:Kb H0 (H0++a::b::G) (H0++a' ::b' ::G):=λi o h1 h2 e=>by
 rcases Nat.lt_or_ge i H0.length with q|q
 ·rw [iT q] at e⊢;exact e
 ·rw [eJ q] at e⊢
  obtain ⟨j,hj⟩:∃j,i - H0.length=j+2:=⟨i - H0.length - 2,by lia⟩
  rw [hj] at e⊢
  exact e
section
variable {H0 H:HP}{fp:List SV}{d:Nat}
theorem jO {R:au}{k:Nat}(h:H[k]? =some (.list vs))(hl:vs.length<big):dl R .ng (.ref k) [v] H= .ok .none (H.set k (.list (vs++ [v]))):=by
 show (match H[k]? with
   |some (.list vs)=>if vs.length<big then du.ok SV.none (H.set k (.list (vs++ [v]))) else .bad
   |_=> .bad)=_
 rw [h]
 exact if_pos hl
theorem Wb.gr (h:Wb H0 fp H):Gr H0 H:=by obtain ⟨G,w,rfl⟩:=h;exact ⟨_,rfl⟩
theorem Wb.more (h:Wb H0 fp H)(g:Gr H H'):Wb H0 fp H' :=by
 refine Ad h λG w dc=> ?_;clear h;subst dc
 obtain ⟨G',rfl⟩:=g
 exact ⟨_,w,Ox⟩
theorem Ac (d:Nat)(l:cR)(H:HP):∃H',bj P (run P (d+1)) (.callC 11 .nil) l H= .ok (.ref H.length) H' /\Wb H [] H' :=by
 have h1:bD P (.ref H.length) 51 (.ref (H++ [SO.inst 11 []]).length) ((H++ [SO.inst 11 []])++ [SO.list []])=some (H++SO.inst 11 [(51, .ref (H.length+1))]:: [SO.list []]):=by
  rw [nf,aL,tA rfl (by decide)]
  rfl
 have h2:bD P (.ref H.length) 66 (.int 12) (H++SO.inst 11 [(51, .ref (H.length+1))]:: [SO.list []])=some (H++SO.inst 11 [(51, .ref (H.length+1)),(66, .int 12)]:: [SO.list []]):=tA rfl (show 1<100 by decide)
 exact ⟨_,lF af rfl (bW rfl rfl (ae (bV (bG af) rfl h1) (ae (bV rfl rfl h2) aj))), [],12,rfl⟩
theorem o0 (h:Wb H0 fp H){m f:Nat}(hf:P.ma 11 m=some f)(h1:51≠m)(h2:66≠m):d6 P (.ref H0.length) m H=some (.fn f):=by
 refine Ad h λG w dc=> ?_;clear h;subst dc
 rw [bN nQ]
 have hg:fO m [(51,SV.ref (H0.length+1)),(66, .int w)]=none:=by
  rw [D4]
  rw [if_neg h1]
  rw [D4]
  rw [if_neg h2];rfl
 show (match P.ma 11 m,fO m [(51,SV.ref (H0.length+1)),(66, .int w)] with|some f,none=>some (MK.fn f)|_,_=>none)=_
 rw [hf,hg]
theorem rW (h:Wb H0 fp H){R:au}{i:Nat}(hi:l[i]? =some (some (.ref H0.length))):bj P R (.attr (.loc i) 51) l H= .ok (.ref (H0.length+1)) H:=by
 refine Ad h λG w dc=> ?_;clear h;subst dc
 exact aF (bc hi) nQ rfl
theorem vL (h:Wb H0 fp H):H[H0.length+1]? =some (.list fp):=by
 refine Ad h λG w dc=> ?_;clear h;subst dc
 exact rX
theorem Y2 {R:au}(h:gK P R c l H= .ok false H1):gJ P R (.xB c b) l H= .next l H1:=U3 (test:=λl H=>gK P R c l H) (n:=63) h
theorem jq {n:Nat}(hn:n<128)(d:Nat)(H:HP):run P (d+1) 7 [.int n] H= .ok (.int 1) H:=
 aE rfl rfl (ae (cD (fC (da (an rfl rfl (gv (aQ (Int.not_lt.mpr (fD _))))) (da (an rfl rfl (jG (aQ (by lia)))) fc))) aj) (ae (bJ rfl) (ae (Y2 (an rfl rfl (qE (aQ (by lia))))) (aY (bK rfl)))))
theorem qA (h:Wb H0 fp H){R:au}{i:Nat}{a:Int}(hi:l[i]? =some (some (.ref H0.length)))(he:bj P R e l H= .ok (.int a) H):∃H',gJ P R (.sK (.loc i) 66 .add e) l H= .next l H' /\Wb H0 fp H' /\Kb H0 H H' :=by
 refine Ad h λG w dc=> ?_;clear h;subst dc
 have e4:eC (.ref H0.length) 66 (H0++ .inst 11 [(51, .ref (H0.length+1)),(66, .int w)]:: .list fp::G)= .ok (.int w) (H0++ .inst 11 [(51, .ref (H0.length+1)),(66, .int w)]:: .list fp::G):=by
  unfold eC
  dsimp only
  rw [nQ];rfl
 exact ⟨_,AI (bc hi) e4 he rfl (tA rfl (show 2<100 by decide)),⟨G,w+a,rfl⟩,Ux⟩
theorem Fc (h:Wb H0 fp H){v:SV}(hl:fp.length<big){R:au}:∃H',dl R .ng (.ref (H0.length+1)) [v] H= .ok .none H' /\Wb H0 (fp++ [v]) H' /\Kb H0 H H' :=by
 refine Ad h λG w dc=> ?_;clear h;subst dc
 exact ⟨_,jO rX hl,⟨G,w,J6⟩,by rw [J6];exact Ux⟩
theorem K1 (h:Wb H0 fp H):d6 P (.ref (H0.length+1)) 1 H=some .ng:=by
 rw [bN (vL h)];rfl
theorem Dl (h:Wb H0 fp H)(hk:key.length<128)(hv:value.length<128)(hl:fp.length<big):∃H',run P (d+2) 35 [.ref H0.length, .int 1, .bytes key, .bytes value] H= .ok .none H' /\Wb H0 (fp++ [xA 1 key value]) H' /\Kb H0 H H' :=by
 refine mq (qA (R:=run P (d+1)) (l:= [some (.ref H0.length),some (.int 1),some (.bytes key),some (.bytes value)]) (i:=0) (e:= .bin .add (.bin .add (.int 1) (.fT 7 (.cons (.bH .len (.cons (.loc 2) .nil)) .nil))) (.bH .len (.cons (.loc 2) .nil))) h rfl (aJ (aJ rfl (cz (aa (bu (aa rfl af) rfl) af) (jq hk d H)) rfl) (bu (aa rfl af) rfl) rfl)) λH1 e1 s1 k1=> ?_
 refine mq (qA (R:=run P (d+1)) (l:= [some (.ref H0.length),some (.int 1),some (.bytes key),some (.bytes value)]) (i:=0) (e:= .bin .add (.fT 7 (.cons (.bH .len (.cons (.loc 3) .nil)) .nil)) (.bH .len (.cons (.loc 3) .nil))) s1 rfl (aJ (cz (aa (bu (aa rfl af) rfl) af) (jq hv d H1)) (bu (aa rfl af) rfl) rfl)) λH2 e2 s2 k2=> ?_
 refine mq (Fc (v:=xA 1 key value) (R:=run P (d+1)) s2 hl) λH3 e3 s3 k3=> ?_
 exact ⟨H3,bW rfl rfl (ae e1 (ae (eZ (an rfl rfl rfl) (ae e2 aj)) (ae (bX (aw (rW s2 rfl) (K1 s2) (aa (db (aa rfl (aa rfl (aa rfl af)))) af) e3)) aj))),s3,(k1.trans k2).trans k3⟩
theorem Cy (h:Wb H0 fp H)(hk:key.length<128)(hl:fp.length<big):∃H',run P (d+2) 35 [.ref H0.length, .int 0, .bytes key, .bytes value] H= .ok .none H' /\Wb H0 (fp++ [xA 0 key value]) H' /\Kb H0 H H' :=by
 refine mq (qA (R:=run P (d+1)) (l:= [some (.ref H0.length),some (.int 0),some (.bytes key),some (.bytes value)]) (i:=0) (e:= .bin .add (.bin .add (.int 1) (.fT 7 (.cons (.bH .len (.cons (.loc 2) .nil)) .nil))) (.bH .len (.cons (.loc 2) .nil))) h rfl (aJ (aJ rfl (cz (aa (bu (aa rfl af) rfl) af) (jq hk d H)) rfl) (bu (aa rfl af) rfl) rfl)) λH1 e1 s1 k1=> ?_
 refine mq (Fc (v:=xA 0 key value) (R:=run P (d+1)) s1 hl) λH3 e3 s3 k3=> ?_
 exact ⟨H3,bW rfl rfl (ae e1 (ae (cD (an rfl rfl rfl) aj) (ae (bX (aw (rW s1 rfl) (K1 s1) (aa (db (aa rfl (aa rfl (aa rfl af)))) af) e3)) aj))),s3,k1.trans k3⟩
theorem EI (h:Wb H0 fp H)(hk:key.length<128)(hv:value.length<128)(hl:fp.length<big):∃H',run P (d+3) 33 [.ref H0.length, .bytes key, .bytes value] H= .ok .none H' /\Wb H0 (fp++ [xA 1 key value]) H' /\Kb H0 H H' :=by
 refine aZ (Dl (d:=d) h hk hv hl) λH1 e1 s1=> ?_
 exact ⟨H1,bW rfl rfl (ae (bX (aw rfl (o0 h (f:=35) rfl (by decide) (by decide)) (aa rfl (aa (bu (aa rfl af) rfl) (aa (bu (aa rfl af) rfl) af))) e1)) aj),s1⟩
theorem P8 (h:Wb H0 fp H)(hk:key.length<128)(hl:fp.length<big):∃H',run P (d+3) 34 [.ref H0.length, .bytes key] H= .ok .none H' /\Wb H0 (fp++ [xA 0 key []]) H' /\Kb H0 H H' :=by
 refine aZ (Cy (d:=d) (value:= []) h hk hl) λH1 e1 s1=> ?_
 exact ⟨H1,bW rfl rfl (ae (bX (aw rfl (o0 h (f:=35) rfl (by decide) (by decide)) (aa rfl (aa (bu (aa rfl af) rfl) (aa rfl af))) e1)) aj),s1⟩
theorem ca {k:Nat}(h:H[k]? =some (.list vs)):Mine.bH Bi.len [.ref k] H= .ok (.int vs.length) H:=by
 show (match H[k]? with|some (.list vs)=>du.ok (SV.int vs.length) H|_=> .bad)=_
 rw [h]
theorem Go (h:Wb H0 fp H):run P (d+1) 37 [.ref H0.length] H= .ok (.int fp.length) H:=
 aE rfl rfl (aY (bK (bu (aa (rW h rfl) af) (ca (vL h)))))
theorem Sq (h:Wb H0 fp H):run P (d+1) 40 [.ref H0.length] H= .ok (.ref H.length) (H++ [.list fp]):=by
 refine aE rfl rfl (aY (bK (bu (aa (rW h rfl) af) ?_)))
 show (match H[H0.length+1]? with|some (.list vs)=>du.ok (SV.ref H.length) (H++ [SO.list vs])|_=> .bad)=_
 rw [vL h]
end
section
variable {R:au}{l:cR}{H H1 H2:HP}{e e1:SE}{f:Nat}{es:nH}{vs:List SV}{q:Bool}
theorem wG (h:bj P R e l H= .ok (.bool p) H1)(h2:p=true->bj P R e1 l H1= .ok (.bool q) H1)(hq:p=false->q=false):bj P R (.and (.cons e (.cons e1 .nil))) l H= .ok (.bool q) H1:=by
 show (bj P R e l H).bind _=_
 rw [h]
 cases p with
 |true=>exact h2 rfl
 |false=>rw [hq rfl];rfl
theorem mt (h:gK P R e l H= .ok q H1):gK P R (.not e) l H= .ok (!q) H1:=by
 show (gK P R e l H).bind _=_
 rw [h];rfl
theorem QI (h:dK P R es l H= .ok vs H1)(h2:R f vs H1= .ok (.bool q) H2):gK P R (.fT f es) l H= .ok q H2:=by
 show ((dK P R es l H).bind λvs H=>R f vs H).bind _=_
 rw [h]
 show (R f vs H1).bind _=_
 rw [h2];rfl
end
noncomputable def Up (o:Option By):Bool:=match o with
 |none=>true
 |some _=>false
theorem QY (o:Option By)(H:HP):bU .is (ob o) .none H=some (Up o):=by cases o<;>rfl
theorem Ms (o:Option By)(H:HP):bU .gm (ob o) .none H=some (!Up o):=by cases o<;>rfl
theorem i7 (a b:Int)(H:HP):bU .eq (.int a) (.int b) H=some (decide (a=b)):=rfl
theorem k9 (a b:Int)(H:HP):bU .ne (.int a) (.int b) H=some (!decide (a=b)):=rfl
theorem xZ (a b:Option By)(d:Nat)(H:HP):run P (d+1) 84 [ob a,ob b] H= .ok (.bool (decide (a=b))) H:=by
 cases a with
 |none=>cases b with
  |none=>exact aE rfl rfl (aY (eZ (fC (jX (an rfl rfl rfl))) (aY (bK (wG (fU rfl rfl rfl) (λu8=>fU rfl rfl rfl) (λz=>nomatch z))))))
  |some y=>exact aE rfl rfl (aY (eZ (fC (jX (an rfl rfl rfl))) (aY (bK (wG (fU rfl rfl rfl) (λu8=>fU rfl rfl rfl) (λz=>nomatch z))))))
 |some x=>cases b with
  |none=>exact aE rfl rfl (aY (eZ (fC (da (an rfl rfl rfl) (jX (an rfl rfl rfl)))) (aY (bK (wG (fU rfl rfl rfl) (λz=>nomatch z) (λu8=>rfl))))))
  |some y=>
   refine aE rfl rfl (ae (cD (fC (da (an rfl rfl rfl) (da (an rfl rfl rfl) fc))) aj) (aY (bK (fU rfl rfl ?_))))
   show some (x==y)=_
   by_cases q:x=y
   ·subst q
    rw [iu,bf rfl]
   ·rw [eX q,aQ (λe=>q (cq e))]
noncomputable def idle (c:iX):Bool:=decide (c.kind=0)||(decide (c.kind=5)||decide (c.kind=6))
noncomputable def dj (c:iX):By:=100::c.key
noncomputable def lq (c:iX)(cx:Option By):List SV:=
 if idle c then [] else
 if c.kind=1 then [xA 1 (dj c) c.value] else
 if c.kind=2 then (match cx with
  |some _=> [xA 0 (dj c) []]
  |none=> []) else
 if c.kind=3 then (if cx=c.expect then [xA 1 (dj c) c.value] else []) else
 match cx with
  |none=> [xA 1 (dj c) c.value]
  |some o=> [xA 1 (dj c) (o++c.value)]
noncomputable def bE (c:iX)(cx:Option By):By:=if idle c then 0::mb none else if c.kind=3/\cx≠c.expect then 1::mb cx else 0::mb cx
theorem AJ (h:¬idle c=true):c.kind≠0/\c.kind≠5/\c.kind≠6:=by
 unfold idle at h
 simpa only [Bool.or_eq_true,decide_eq_true_eq,not_or] using h
theorem ic {R:au}{n k:Int}(h:bj P R e l H= .ok (.int n) H1)(h2:decide (n=k)=q):gK P R (.cmp .eq e (.int k)) l H= .ok q H1:=an h rfl ((i7 _ _ _).trans (congrArg some h2))
theorem ki {R:au}{k:Nat}{n m:Int}(hl:l[k]? =some (some (.int n)))(h:decide (n=m)=b):gK P R (.cmp .eq (.loc k) (.int m)) l H= .ok b H:=ic (bc hl) h
theorem gS {R:au}{l:cR}{H:HP}{c:iX}{k a:Nat}(hk:H[k]? =some c.so)(hl:l[1]? =some (some (.ref k)))(hv:fO a [(32, .int c.kind),(9, .int c.d7),(41, .int c.number),(31, .bytes c.key),(63, .bytes c.value),(22,ob c.expect)]=some v):bj P R (.attr (.loc 1) a) l H= .ok v H:=aF (bc hl) hk hv
theorem kR (hi:¬idle c=true)(h:¬(c.kind=3/\cx≠c.expect)):bE c cx=0::mb cx:=(if_neg hi).trans (if_neg h)
noncomputable def Dx (mi k b:Nat)(c:iX)(cx:Option By):cR:= [some (.ref mi),some (.ref k),some (.ref b),some (.int c.kind),some (.bytes (dj c)),some (ob cx)]
section
variable {H0 H:HP}{si di bi mi:Nat}{aU aW applied term aO:Int}{aP:By}{sync:Bool}{so:SO}{D:By->Option By}{c:iX}{k:Nat}
theorem Ju (hi:idle c=true)(hk:H[k]? =some c.so)(b:Nat)(d:Nat):∃H',run P (d+5) 77 [.ref mi, .ref k, .ref b] H= .ok (.bytes (0::mb none)) H' /\Gr H H' :=by
 refine aZ (jW (o:=none) (code:=0) (by decide) (by decide) (λu8 z=>nh z) d H) λH1 e1 g1=> ?_
 refine ⟨H1,aE rfl rfl (ae (bJ (gS hk rfl rfl)) (aY (eZ (fC ?_) (aY (bK (cz (aa rfl (aa rfl af)) e1)))))),g1⟩
 unfold idle at hi
 by_cases q0:c.kind=0
 ·exact jX (ki rfl (bf q0))
 rw [aQ q0,Bool.false_or] at hi
 refine da (ki rfl (aQ q0)) ?_
 by_cases q5:c.kind=5
 ·exact jX (ki rfl (bf q5))
 rw [aQ q5,Bool.false_or] at hi
 exact da (ki rfl (aQ q5)) (jX (ki rfl hi))
theorem zS (hm:H0[mi]? =some (aX si applied term aP aO sync))(hs:H0[si]? =some (bF di bi aU aW))(hd:H0[di]? =some so)(hD:dy so D)(hb:Wb H0 [] H)(hk:H[k]? =some c.so)(ok:c.Ok)
  (Nj:c.key.length<=100) (hold:∀b,D (dj c)=some b->b.length+c.value.length<128) (d:Nat) {C:Prop}
  (K:∀H',run P (d+5) 77 [.ref mi, .ref k, .ref H0.length] H= .ok (.bytes (bE c (D (dj c)))) H'->Wb H0 (lq c (D (dj c))) H'->Kb H0 H H'->C):C:=by
 by_cases hi:idle c=true
 ·refine aZ (Ju (mi:=mi) hi hk H0.length d) λH1 e1 g1=> ?_
  exact K H1 ((show bE c (D (dj c))=0::mb none from if_pos hi)▸e1) ((show lq c (D (dj c))= [] from if_pos hi)▸hb.more g1) g1.kb
 have hn:=AJ hi
 have g0:=hb.gr
 have hg:=xa (k:=dj c) (g0.at hs) (g0.at hd) hD (d+3)
 generalize D (dj c)=cx at hg hold K
 have lp:(dj c).length<128:=fJ (Nat.succ_le_succ Nj) (by decide)
 have KH:∀b,cx=some b->b.length<128:=λb e=>fJ (gR _ _) (hold b e)
 have pre:∀{o:cQ},aK P (run P (d+4)) (bx 4 Rg) (Dx mi k H0.length c cx) H=o->aK P (run P (d+4)) Rg [some (.ref mi),some (.ref k),some (.ref H0.length),none,none,none] H=o:=λh=>
  ae (bJ (gS hk rfl rfl)) (ae (cD (fC (da (ki rfl (aQ hn.1)) (da (ki rfl (aQ hn.2.1)) (da (ki rfl (aQ hn.2.2)) fc)))) aj)
   (ae (bJ (cz (aa (gS hk rfl rfl) af) (vE (cy Nj (by decide)) (d+3) H))) (ae (bJ (aw (q:= .fn 90) (v:= .ref si) (aF rfl (g0.at hm) rfl) (bN (g0.at hs)) (aa rfl af) hg)) h)))
 have eR:∀{H1:HP} {ops:List SV},gJ P (run P (d+4)) (cK (bx 4 Rg)) (Dx mi k H0.length c cx) H= .next (Dx mi k H0.length c cx) H1->Wb H0 ops H1->Kb H0 H H1->¬(c.kind=3/\cx≠c.expect)->lq c cx=ops->C:=λ{H1 ops} h s k1 n e=>by
  refine aZ (jW (o:=cx) (code:=0) (by decide) (by decide) KH d H1) λH2 e2 g2=> ?_
  exact K H2 (kR hi n▸aE rfl rfl (pre (ae h (aY (bK (cz (aa rfl (aa rfl af)) e2)))))) (e▸s.more g2) (k1.trans g2.kb)
 have put:∀{v:By} {e:SE},v.length<128->bj P (run P (d+4)) e (Dx mi k H0.length c cx) H= .ok (.bytes v) H->(∀H1,gJ P (run P (d+4)) (.expr (.ez (.loc 2) 47 (.cons (.loc 4) (.cons e .nil)))) (Dx mi k H0.length c cx) H= .next (Dx mi k H0.length c cx) H1->Wb H0 [xA 1 (dj c) v] H1->Kb H0 H H1->C)->C:=λ{v e} hv he k=>by
  refine mq (EI (d:=d+1) (key:=dj c) (value:=v) hb lp hv (by decide)) λH1 e1 s1 k1=> ?_
  exact k H1 (bX (aw rfl (o0 hb (f:=33) rfl (by decide) (by decide)) (aa rfl (aa he af)) e1)) s1 k1
 by_cases q1:c.kind=1
 ·exact put ok.val (gS hk rfl rfl) λH1 h s1 k1=>eR (eZ (ki rfl (bf q1)) (ae h aj)) s1 k1 (λz=>absurd (z.1.symm.trans q1) (by decide)) ((if_neg hi).trans (if_pos q1))
 have n1:lq c cx=_:=(if_neg hi).trans (if_neg q1)
 by_cases q2:c.kind=2
 ·have n3:¬(c.kind=3/\cx≠c.expect):=λz=>absurd (z.1.symm.trans q2) (by decide)
  have n2:=n1.trans (if_pos q2)
  cases cx with
  |none=>exact eR (cD (ki rfl (aQ q1)) (ae (eZ (ki rfl (bf q2)) (ae (cD (an rfl rfl rfl) aj) aj)) aj)) hb (Gr.kb Gr.refl) n3 n2
  |some b=>
   refine mq (P8 (d:=d+1) (key:=dj c) hb lp (by decide)) λH1 e1 s1 k1=> ?_
   exact eR (cD (ki rfl (aQ q1)) (ae (eZ (ki rfl (bf q2)) (ae (eZ (an rfl rfl rfl) (ae (bX (aw rfl (o0 hb (f:=34) rfl (by decide) (by decide)) (aa rfl af) e1)) aj)) aj)) aj)) s1 k1 n3 n2
 have n2:=n1.trans (if_neg q2)
 by_cases q3:c.kind=3
 ·have n3:=n2.trans (if_pos q3)
  have e0:=xZ cx c.expect (d+3) H
  by_cases qe:cx=c.expect
  ·rw [bf qe] at e0
   exact put ok.val (gS hk rfl rfl) λH1 h s1 k1=>eR (cD (ki rfl (aQ q1)) (ae (cD (ki rfl (aQ q2)) (ae (eZ (ki rfl (bf q3)) (ae (cD (mt (QI (aa rfl (aa (gS hk rfl rfl) af)) e0)) aj) (ae h aj))) aj)) aj)) s1 k1 (λz=>z.2 qe) (n3.trans (if_pos qe))
  ·rw [aQ qe] at e0
   refine aZ (jW (o:=cx) (code:=1) (by decide) (by decide) KH d H) λH2 e2 g2=> ?_
   exact K H2 ((show bE c cx=1::mb cx from (if_neg hi).trans (if_pos ⟨q3,qe⟩))▸aE rfl rfl (pre (aY (cD (ki rfl (aQ q1)) (aY (cD (ki rfl (aQ q2)) (aY (eZ (ki rfl (bf q3)) (aY (eZ (mt (QI (aa rfl (aa (gS hk rfl rfl) af)) e0)) (aY (bK (cz (aa rfl (aa rfl af)) e2))))))))))))) ((n3.trans (if_neg qe))▸hb.more g2) g2.kb
 have n3:=n2.trans (if_neg q3)
 have m3:¬(c.kind=3/\cx≠c.expect):=λz=>q3 z.1
 cases cx with
 |none=>exact put ok.val (gS hk rfl rfl) λH1 h s1 k1=>eR (cD (ki rfl (aQ q1)) (ae (cD (ki rfl (aQ q2)) (ae (cD (ki rfl (aQ q3)) (ae (eZ (an rfl rfl rfl) (ae h aj)) aj)) aj)) aj)) s1 k1 m3 n3
 |some b=>
  have xW:=hold b rfl
  have eb:cF .add (.bytes b) (.bytes c.value) H= .ok (.bytes (b++c.value)) H:=if_pos (by show b.length+c.value.length<=4096;exact lD ‹_› rfl)
  exact put (by rw [aL];exact xW) (aJ (x:= .bytes b) (y:= .bytes c.value) rfl (gS hk rfl rfl) eb) λH1 h s1 k1=>eR (cD (ki rfl (aQ q1)) (ae (cD (ki rfl (aQ q2)) (ae (cD (ki rfl (aQ q3)) (ae (cD (an rfl rfl rfl) (ae h aj)) aj)) aj)) aj)) s1 k1 m3 n3
end
noncomputable abbrev kN:=Option (Int×Bool×By)
noncomputable def cG:kN->Int
 |none=> -1
 |some s=>s.1
noncomputable def cX:kN->Bool
 |none=>false
 |some s=>s.2.1
noncomputable def f0:kN->By
 |none=> []
 |some s=>s.2.2
structure zZ (S:kN):Prop where
 ok:∀s,S=some s->0<=s.1/\s.1<16384/\s.2.2.length<128
noncomputable def AL (c:iX)(w:Bool)(S:kN)(cx:Option By):List SV:=
 if c.number=cG S then [] else if c.number<cG S then [] else if (!cX S&& !decide (c.kind=5))=true then [] else lq c cx++ [xA 1 (de w) (yQ c.number (!decide (c.kind=6)) (bE c cx))]
noncomputable def f6 (c:iX)(S:kN)(cx:Option By):By:=
 if c.number=cG S then f0 S else if c.number<cG S then 3::mb none else if (!cX S&& !decide (c.kind=5))=true then 2::mb none else bE c cx
theorem HE {o:Option By}{n:Nat}(h:∀b,o=some b->b.length<=n):(mb o).length<=n+2:=by
 cases o with
 |none=>show 1<=n+2;exact lE rfl
 |some b=>
  have:=h b rfl
  show b.length+1+1<=n+2
  lia
theorem oT {c:iX}{n:Nat}(h:∀b,o=some b->b.length<=n):(bE c o).length<=n+3:=by
 have h1:=HE h
 unfold bE
 split
 ·show 2<=n+3;exact lE rfl
 ·split<;>(rw [dq];lia)
section
variable {H0 H:HP}{si di bi mi:Nat}{aU aW applied term aO:Int}{aP:By}{sync:Bool}{so:SO}{D:By->Option By}{c:iX}{k:Nat}{w:Bool}{S:kN}
theorem oY (hm:H[mi]? =some (aX si applied term aP aO sync))(hs:H[si]? =some (bF di bi aU aW))(hd:H[di]? =some so)(hD:dy so D)(e:D (de w)=S.map λs=>yQ s.1 s.2.1 s.2.2)(hS:zZ S)(d:Nat):
  ∃H',run P (d+5) 79 [.ref mi, .int (cl w)] H= .ok (.tuple [.int (cG S), .bool (cX S), .bytes (f0 S)]) H' /\Gr H H' :=by
 cases S with
 |none=>exact uI hm hs hd hD e d
 |some s=>
  refine rB (hS.ok s rfl) λh0 h1 h2=> ?_
  exact ue hm hs hd hD e h0 h1 h2 d
theorem Qy (hb:Wb H0 [] H)(hk:H[k]? =some c.so):k≠H0.length/\k≠H0.length+1:=by
 refine Ad hb λG w dc=> ?_;clear hb;subst dc
 refine ⟨λe=> ?_,λe=> ?_⟩
 ·rw [e,nQ] at hk;cases hk
 ·rw [e,rX] at hk;cases hk
theorem IZ (w:Bool):(de w).length<128:=by cases w<;>decide
theorem B1:(lq c o).length<big:=by
 unfold lq
 repeat' (first|exact (show (0:Nat)<4096 by decide)|exact (show (1:Nat)<4096 by decide)|split)
theorem K4 {H:HP}{code:Int}(h0:0<=code)(h1:code<256)(d:Nat)(l:cR):∃H',bj P (run P (d+5)) (.fT 63 (.cons (.int code) (.cons .none .nil))) l H= .ok (.bytes (code::mb none)) H' /\Gr H H' :=by
 refine aZ (jW (o:=none) h0 h1 (λu8 z=>nh z) (d+1) H) λH2 e2 g2=> ?_
 exact ⟨H2,cz (aa rfl (aa rfl af)) e2,g2⟩
theorem yN (hm:H0[mi]? =some (aX si applied term aP aO sync))(hs:H0[si]? =some (bF di bi aU aW))(hd:H0[di]? =some so)(hD:dy so D)(hb:Wb H0 [] H)(hk:H[k]? =some c.so)(ok:c.Ok)(hc:c.d7=cl w)
  (Nj:c.key.length<=100) (hold:∀b,D (dj c)=some b->b.length+c.value.length<=100) (e:D (de w)=S.map λs=>yQ s.1 s.2.1 s.2.2) (hS:zZ S) (d:Nat) {C:Prop}
  (K:∀H',run P (d+6) 76 [.ref mi, .ref k, .ref H0.length] H= .ok (.bytes (f6 c S (D (dj c)))) H'->Wb H0 (AL c w S (D (dj c))) H'->C):C:=by
 have g0:=hb.gr
 refine aZ (oY (w:=w) (g0.at hm) (g0.at hs) (g0.at hd) hD e hS d) λH1 e1 g1=> ?_
 have rM:=g1.at hk
 have GU:=hb.more g1
 have pre:∀{o:cQ},aK P (run P (d+5)) (bx 1 Mz) [some (.ref mi),some (.ref k),some (.ref H0.length),some (.int (cG S)),some (.bool (cX S)),some (.bytes (f0 S)),none] H1=o->aK P (run P (d+5)) Mz [some (.ref mi),some (.ref k),some (.ref H0.length),none,none,none,none] H=o:=λh=>
  ae (lz (vs:= [.int (cG S), .bool (cX S), .bytes (f0 S)]) (aw (q:= .fn 79) (v:= .ref mi) rfl (bN (g0.at hm)) (aa (v:= .int (cl w)) (hc▸gS hk rfl rfl) af) e1) rfl) h
 have eR:∀{rep:By} {ops:List SV} {H' :HP},f6 c S (D (dj c))=rep->AL c w S (D (dj c))=ops->run P (d+6) 76 [.ref mi, .ref k, .ref H0.length] H= .ok (.bytes rep) H'->Wb H0 ops H'->C:=λh1 h2 e h=>K _ (h1▸e) (h2▸h)
 by_cases q1:c.number=cG S
 ·exact eR (if_pos q1) (if_pos q1) (aE rfl rfl (pre (aY (eZ (an (gS rM rfl rfl) rfl ((i7 _ _ _).trans (congrArg some (bf q1)))) (aY (bK rfl)))))) GU
 have Uv:∀{o:cQ},aK P (run P (d+5)) (bx 2 Mz) [some (.ref mi),some (.ref k),some (.ref H0.length),some (.int (cG S)),some (.bool (cX S)),some (.bytes (f0 S)),none] H1=o->aK P (run P (d+5)) Mz [some (.ref mi),some (.ref k),some (.ref H0.length),none,none,none,none] H=o:=λh=>
  pre (ae (cD (an (gS rM rfl rfl) rfl ((i7 _ _ _).trans (congrArg some (aQ q1)))) aj) h)
 by_cases q2:c.number<cG S
 ·refine aZ (K4 (H:=H1) (code:=3) (by decide) (by decide) d [some (.ref mi),some (.ref k),some (.ref H0.length),some (.int (cG S)),some (.bool (cX S)),some (.bytes (f0 S)),none]) λH2 e2 g2=> ?_
  exact eR ((if_neg q1).trans (if_pos q2)) ((if_neg q1).trans (if_pos q2)) (aE rfl rfl (Uv (aY (eZ (an (gS rM rfl rfl) rfl (gv (bf q2))) (aY (bK e2)))))) (GU.more g2)
 have go2:∀{o:cQ},aK P (run P (d+5)) (bx 3 Mz) [some (.ref mi),some (.ref k),some (.ref H0.length),some (.int (cG S)),some (.bool (cX S)),some (.bytes (f0 S)),none] H1=o->aK P (run P (d+5)) Mz [some (.ref mi),some (.ref k),some (.ref H0.length),none,none,none,none] H=o:=λh=>
  Uv (ae (cD (an (gS rM rfl rfl) rfl (gv (aQ q2))) aj) h)
 have nk:gK P (run P (d+5)) (.cmp .ne (.attr (.loc 1) 32) (.int 5)) [some (.ref mi),some (.ref k),some (.ref H0.length),some (.int (cG S)),some (.bool (cX S)),some (.bytes (f0 S)),none] H1= .ok (!decide (c.kind=5)) H1:=an (gS rM rfl rfl) rfl (k9 _ _ _)
 have no:gK P (run P (d+5)) (.not (.loc 4)) [some (.ref mi),some (.ref k),some (.ref H0.length),some (.int (cG S)),some (.bool (cX S)),some (.bytes (f0 S)),none] H1= .ok (!cX S) H1:=mt rfl
 have both:=Hu no λu8=>nk
 by_cases q3:(!cX S&& !decide (c.kind=5))=true
 ·rw [q3] at both
  refine aZ (K4 (H:=H1) (code:=2) (by decide) (by decide) d [some (.ref mi),some (.ref k),some (.ref H0.length),some (.int (cG S)),some (.bool (cX S)),some (.bytes (f0 S)),none]) λH2 e2 g2=> ?_
  exact eR ((if_neg q1).trans ((if_neg q2).trans (if_pos q3))) ((if_neg q1).trans ((if_neg q2).trans (if_pos q3))) (aE rfl rfl (go2 (aY (eZ both (aY (bK e2)))))) (GU.more g2)
 rw [Bool.eq_false_iff.mpr q3] at both
 have rl:=oT (c:=c) (o:=D (dj c)) (n:=100) λb z=>cy (gR _ _) (hold b z)
 refine zS hm hs hd hD GU rM ok Nj (λb z=>fJ (hold b z) (by decide)) d λH2 e2 s2 k2=> ?_
 have fin2:=λ{H'}=>eR (H' :=H') ((if_neg q1).trans ((if_neg q2).trans (if_neg q3))) ((if_neg q1).trans ((if_neg q2).trans (if_neg q3)))
 generalize bE c (D (dj c))=rep at*
 have kn:=Qy GU rM
 have Lh:=k2 _ _ kn.1 kn.2 rM
 refine aZ (rC (op:= !decide (c.kind=6)) ok.n0 ok.n1 (fJ rl (by decide)) (d+1) H2) λH3 e3 g3=> ?_
 refine aZ (kT w (d+2) H3) λH4 e4 g4=> ?_
 have vl:=jy c.number
 obtain ⟨H5,e5,s5,k5⟩:=EI (d:=d+2) (key:=de w) (value:=yQ c.number (!decide (c.kind=6)) rep) ((s2.more g3).more g4) (IZ w) (by
  unfold yQ
  rw [aL,dq,dq]
  lia) B1
 exact fin2 (aE rfl rfl (go2 (ae (cD both aj)
  (ae (bJ (aw (q:= .fn 77) (v:= .ref mi) rfl (bN (g1.at (g0.at hm))) (aa rfl (aa rfl af)) e2)) (ae (bJ (cz (aa (gS Lh rfl rfl) (aa (fU (gS Lh rfl rfl) rfl (k9 _ _ _)) (aa rfl af))) e3))
  (ae (bX (aw rfl (o0 ((s2.more g3)) (f:=33) rfl (by decide) (by decide)) (aa (cz (aa (v:= .int (cl w)) (hc▸gS (g3.at Lh) rfl rfl) af) e4) (aa rfl af)) e5)) (aY (bK rfl)))))))) s5
end
noncomputable def kZ (term index kind:Int)(data:By):SO:= .inst 12 [(62, .int term),(28, .int index),(32, .int kind),(15, .bytes data)]
section
variable {H:HP}{e:Nat}{term index kind:Int}{data:By}{mi:Nat}
theorem Lj (n:Int):0<(vb n).length:=by unfold vb;split<;>simp
theorem vW (c:iX)(t:By):¬((c.enc++t).length:Int)=0:=by
 have:=Lj c.kind
 unfold iX.enc
 simp only [aL]
 lia
theorem t9 {R:au}(he:H[e]? =some (kZ term index kind data))(hl:l[1]? =some (some (.ref e))):bj P R (.attr (.loc 1) 32) l H= .ok (.int kind) H:=aF (bc hl) he rfl
theorem pz {R:au}(he:H[e]? =some (kZ term index kind data))(hl:l[1]? =some (some (.ref e))):bj P R (.attr (.loc 1) 15) l H= .ok (.bytes data) H:=aF (bc hl) he rfl
theorem rh (he:H[e]? =some (kZ term index kind data))(h:kind=2∨data= [])(d:Nat):run P (d+1) 75 [.ref mi, .ref e] H= .ok .none H:=by
 refine aE rfl rfl (aY (eZ (fC ?_) (aY (bK rfl))))
 by_cases q:kind=2
 ·exact jX (an (t9 he rfl) rfl ((i7 _ _ _).trans (congrArg some (bf q))))
 ·refine da (an (t9 he rfl) rfl ((i7 _ _ _).trans (congrArg some (aQ q)))) ?_
  rcases h with h|h
  ·exact absurd h q
  ·subst h
   exact jX (an (bu (aa (pz he rfl) af) rfl) rfl rfl)
theorem nP (he:H[e]? =some (kZ term index kind data))(hk:kind≠2)(hd:¬(data.length:Int)=0){d:Nat}(h:gJ P (run P d) (.lM (.cons (.ret (.fT 62 (.cons (.attr (.loc 1) 15) .nil))) .nil) 7 .jN) [some (.ref mi),some (.ref e)] H=o)(ho:∀l H,o≠ .next l H):
  run P (d+1) 75 [.ref mi, .ref e] H=eR false o:=by
 rw [tH rfl rfl]
 refine congrArg (eR false) (ae (cD (fC (da (an (t9 he rfl) rfl ((i7 _ _ _).trans (congrArg some (aQ hk)))) (da (an (bu (aa (pz he rfl) af) rfl) rfl ((i7 _ _ _).trans (congrArg some (aQ hd)))) fc))) aj) ?_)
 show (match gJ P (run P d) (.lM (.cons (.ret (.fT 62 (.cons (.attr (.loc 1) 15) .nil))) .nil) 7 .jN) [some (.ref mi),some (.ref e)] H with| .next l H=>aK P (run P d) .nil l H|o=>o)=o
 rw [h]
 cases o with
 |next l H=>exact absurd rfl (ho l H)
 |_=>rfl
theorem yv {c:iX}(he:H[e]? =some (kZ term index kind c.enc))(hk:kind≠2)(ok:c.Ok)(h6:c.kind<=6)(d:Nat):∃H' k,run P (d+6) 75 [.ref mi, .ref e] H= .ok (.ref k) H' /\Gr H H' /\H'[k]? =some c.so:=by
 refine j8 (Kn ok h6 d H) λH1 k e1 g1 h1=> ?_
 exact ⟨H1,k,nP he hk (by have:=vW c [];rwa [ch] at this) (Qz (aY (bK (cz (aa (pz he rfl) af) e1)))) (λu8 u8 z=>nomatch z),g1,h1⟩
theorem lZ (he:H[e]? =some (kZ term index kind data))(hk:kind≠2)(hd:¬(data.length:Int)=0){d:Nat}(e1:run P (d+5) 62 [.bytes data] H= .exc 7 H'):run P (d+6) 75 [.ref mi, .ref e] H= .ok .none H' :=
 nP he hk hd (vB (u0 (O7 (cz (aa (pz he rfl) af) e1))) rfl) (λu8 u8 z=>nomatch z)
end
noncomputable def fz (index term:Int)(aP:By):By:=vb index++(vb term++(aP.length:Int)::aP)
theorem pt {mi:Nat}{index term:Int}(hm:H0[mi]? =some mo)(hb:Wb H0 fp H)(hr:fp.length<100)(i0:0<=index)(i1:index<16384)(t0:0<=term)(t1:term<16384)(hc:aP.length<100)(d:Nat):
  ∃H',run P (d+4) 72 [.ref mi, .ref H0.length, .int index, .int term, .bytes aP] H= .ok .none H' /\Wb H0 (fp++ [xA 1 [97] (fz index term aP)]) H' :=by
 have v1:=jy index
 have v2:=jy term
 refine aZ (uc (d+2) [some (.ref mi),some (.ref H0.length),some (.int index),some (.int term),some (.bytes aP),none] H) λH1 e1 s1=> ?_
 refine aZ (gi (d:=d) s1 i0 i1 (by decide)) λH2 e2 s2=> ?_
 obtain ⟨H3,e3,s3⟩:=gi (d:=d) s2 t0 t1 (by simp only [aL,List.length_nil,big];lia)
 obtain ⟨H4,e4,s4⟩:=iU (d:=d+1) (b:=aP) s3 (by exact lB ‹_› rfl) (by simp only [aL,List.length_nil,big];lia)
 have e5:=oZ (d:=d+2) s4
 rw [show ([]++vb index++vb term++(aP.length:Int)::aP)=fz index term aP from bZ ..] at e5
 obtain ⟨H5,e6,s6,_⟩:=EI (d:=d) (key:= [97]) (value:=fz index term aP) (hb.more s4.gr) (by decide) (by
  unfold fz
  rw [aL,aL,dq]
  lia) (dR hr (by decide))
 exact ⟨H5,bW rfl rfl (ae (bJ e1) (ae (bX (aw rfl (fy s1 64) (aa rfl af) e2)) (ae (bX (aw rfl (fy s2 64) (aa rfl af) e3)) (ae (bX (aw rfl (fy s3 37) (aa rfl af) e4))
  (ae (bX (aw rfl (o0 (hb.more s4.gr) (f:=33) rfl (by decide) (by decide)) (aa rfl (aa (aw (R:=run P (d+3)) rfl (fy s4 19) af e5) af)) e6)) aj))))),s6⟩
inductive Op where
 |put (k v:By)|del (k:By)
noncomputable def Op.sv:Op->SV
 | .put k v=>xA 1 k v
 | .del k=>xA 0 k []
noncomputable def Op.do (D:By->Option By):Op->By->Option By
 | .put k v=>λx=>if x=k then some v else D x
 | .del k=>λx=>if x=k then none else D x
noncomputable def eT:List Op->(By->Option By)->By->Option By
 | [],D=>D
 |o::r,D=>eT r (o.do D)
noncomputable def Op.tag:Op->Int
 | .put .. =>1
 | .del _=>0
noncomputable def Op.val:Op->By
 | .put _ v=>v
 | .del _=> []
noncomputable def Op.key:Op->By
 | .put k _=>k
 | .del k=>k
section
variable {R:au}{l:cR}{H H1 H2 H3:HP}{e e1:SE}{a i:SE}{v x y:SV}
theorem sF (h:bj P R e l H= .ok v H1)(h2:bj P R e1 l H1= .ok x H2)(h3:bj P R e2 l H2= .ok y H3)(h4:jL x y v H3=some H4):gJ P R (.j3 (.sub e1 e2) e) l H= .next l H4:=by
 show (bj P R e l H).then l _=_
 rw [h]
 show (bj P R e1 l H1).then l _=_
 rw [h2]
 show (bj P R e2 l H2).then l _=_
 rw [h3]
 show (match jL x y v H3 with|some H=>cQ.next l H|none=> .bad)=_
 rw [h4]
theorem Ph (h2:bj P R e l H= .ok x H1)(h3:bj P R e1 l H1= .ok y H2)(h4:hW x y H2=some H3):gJ P R (.del e e1) l H= .next l H3:=by
 show (bj P R e l H).then l _=_
 rw [h2]
 show (bj P R e1 l H1).then l _=_
 rw [h3]
 show (match hW x y H2 with|some H=>cQ.next l H|none=> .bad)=_
 rw [h4]
end
theorem eN {H:HP}{i j:Nat}{o:SO}(h:i≠j):(H.set i o)[j]? =H[j]? :=List.getElem?_set_ne h
theorem eA {H:HP}{i:Nat}{o x:SO}(h:H[i]? =some x):(H.set i o)[i]? =some o:=List.getElem?_set_self (gw h).1
noncomputable def Kx (X:List Nat)(H H' :HP):Prop:=∀i o,i∉X->H[i]? =some o->H'[i]? =some o
theorem Kx.refl {X:List Nat}:Kx X H H:=λu8 u8 u8 e=>e
theorem Kx.trans {X:List Nat}{H H1 H2:HP}(a:Kx X H H1)(b:Kx X H1 H2):Kx X H H2:=λi o h e=>b i o h (a i o h e)
theorem Gr.kx {X:List Nat}(a:Gr H H1):Kx X H H1:=λi o u8 e=>a.at e
theorem pJ {X:List Nat}{H:HP}{i:Nat}(h:i∈X):Kx X H (H.set i o):=λj o' hj e=>(eN (λ(q:i=j)=>hj (by rw [<-q];exact h))).trans e
theorem An {i a:Nat}(h:i≠a):i∉ [a]:=λq=>h (eF q)
theorem we {i a b c:Nat}(h:i≠a)(h2:i≠b)(h3:i≠c):i∉ [a,b,c]:=λq=>(cH q).elim h λq=>(cH q).elim h2 (An h3)
noncomputable def tg:SO->Nat:=SO.rec (λu8=>100) 101 (λu8=>102) (λu8=>103) (λu8=>104) (λc u8=>c)
theorem fH (h:Nat.beq (tg a) (tg b)=false):a≠b:=λe=>by subst e;rw [Nat.beq_refl] at h;exact Cg h
theorem cW {H:HP}{i j:Nat}(h:H[i]? =some a)(h2:H[j]? =some b)(n:a≠b):i≠j:=λe=>n (cq (h.symm.trans (e▸h2)))
section
variable {D:By->Option By}{U:List By}{so:SO}(h:dP U so D)
include h
theorem en {c:Nat}:so≠ .inst c fs:=λe=>by
 obtain ⟨es,q|⟨q,_⟩,_⟩:=h.ex<;>(rw [e] at q;cases q)
theorem mQ:so≠ .list vs:=λe=>by
 obtain ⟨es,q|⟨q,_⟩,_⟩:=h.ex<;>(rw [e] at q;cases q)
end
theorem ph {r:Nat}{k v:SV}(hr:H[r]? =some so)(h:uG k v so=some fj):jL (.ref r) k v H=some (H.set r fj):=by
 show (match H[r]? with|some d=>(match uG k v d with|some d=>some (H.set r d)|none=>none)|none=>none)=_
 rw [hr]
 dsimp only
 rw [h]
theorem yn {r:Nat}(hr:H[r]? =some so)(h:yg k so=some fj):hW (.ref r) k H=some (H.set r fj):=by
 show (match H[r]? with|some d=>(match yg k d with|some d=>some (H.set r d)|none=>none)|none=>none)=_
 rw [hr]
 dsimp only
 rw [h]
theorem Op.Pz (o:Op):o.sv=xA o.tag o.key o.val:=by cases o<;>rfl
noncomputable def KI:cA:= .cons (.ifs (.cmp .eq (.loc 2) (.int 1)) (.cons (.j3 (.sub (.attr (.loc 0) 40) (.loc 3)) (.loc 4)) .nil) (.cons (.ifs (.cmp .isIn (.loc 3) (.attr (.loc 0) 40)) (.cons (.del (.attr (.loc 0) 40) (.loc 3)) .nil) .nil) .nil)) .nil
set_option tactic.hygienic true in
theorem Ep (h:D k=none):(Op.del k).do D=D:=by
 funext x
 show (if x=k then none else D x)=D x
 split
 ·rename_i q;rw [q,h]
 ·rfl
theorem Od {di:Nat}{k:By}(hd:H[di]? =some so)(hD:dy so D):bU .isIn (.bytes k) (.ref di) H=some (D k).isSome:=by
 show (match H[di]? with|some o=>(hZ (.bytes k) o).map (λz=>Option.isSome z)|none=>none)=_
 rw [hd]
 dsimp only
 rw [pn hD]
 cases D k<;>rfl
theorem GD {H:HP}{si di bi:Nat}{aU aW:Int}(o:Op)(hk:o.key∈U5)(hs:H[si]? =some (bF di bi aU aW))(hd:H[di]? =some so)(hD:dy so D)(R:au)(l:cR)(h0:l[0]? =some (some (.ref si)))
  (h2:l[2]? =some (some (.int o.tag))) (h3:l[3]? =some (some (.bytes o.key))) (h4:l[4]? =some (some (.bytes o.val))) {C:Prop}
  (K:∀H' fj,aK P R KI l H= .next l H'->H'[di]? =some fj->dy fj (o.do D)->Kx [di] H H'->C):C:=by
 have hn:bj P R (.attr (.loc 0) 40) l H= .ok (.ref di) H:=aF (bc h0) hs rfl
 cases o with
 |put k v=>
  refine aZ (yF (k:=k) (b:=v) hD hk (by decide)) λfj e1 d1=> ?_
  exact K (H.set di fj) fj (ae (eZ (an (bc h2) rfl rfl) (ae (sF (bc h4) hn (bc h3) (ph hd e1)) aj)) aj) (eA hd) d1 (pJ (.head _))
 |del k=>
  have yP:=Od (k:=k) hd hD
  cases HG:D k with
  |none=>
   rw [HG] at yP
   exact K H so (ae (cD (an (bc h2) rfl rfl) (ae (cD (an (bc h3) hn yP) aj) aj)) aj) hd ((Ep HG).symm▸hD) Kx.refl
  |some b=>
   rw [HG] at yP
   refine aZ (y2 hD HG) λfj e1 d1=> ?_
   exact K (H.set di fj) fj (ae (cD (an (bc h2) rfl rfl) (ae (eZ (an (bc h3) hn yP) (ae (Ph hn (bc h3) (yn hd e1)) aj)) aj)) aj) (eA hd) d1 (pJ (.head _))
theorem cT {r k:Nat}(h:H[r]? =some (.list vs)):ct (.ref r) k H=some vs[k]? :=by
 show (match H[r]? with|some (.list vs)=>some vs[k]? |_=>none)=_
 rw [h]
theorem dY {r:Nat}(h:H[r]? =some (.list vs)):fa (.ref r) H=vs.length:=by
 show (match H[r]? with|some (.list vs)=>vs.length|_=>0)=_
 rw [h]
theorem wJ {α:Type}{f:α->SV}{a b:List α}{x:α}:((a++x::b).map f)[a.length]? =some (f x):=by
 rw [eG,eJ (Nat.le_of_eq (bI _)),bI,Nat.sub_self];rfl
theorem sw {α:Type}{f:α->SV}{a:List α}:((a++ []).map f)[a.length]? =none:=by
 rw [ch,List.getElem?_eq_none (Nat.le_of_eq (bI _))]
noncomputable def TX (si r:Nat)(f:Nat->Option SV):cR:= [some (.ref si),some (.ref r),f 2,f 3,f 4]
noncomputable def VJ (a b c:SV):Nat->Option SV
 |2=>some a
 |3=>some b
 |_=>some c
theorem BN {si di bi r:Nat}{aU aW:Int}(R:au){C:Prop}(cU:List Op):∀(done:List Op) (H:HP) (so:SO) (D:By->Option By) (f:Nat->Option SV),(∀o∈cU,o.key∈U5)->H[r]? =some (.list ((done++cU).map Op.sv))->H[si]? =some (bF di bi aU aW)->H[di]? =some so->dy so D->
  (∀H' f' fj,forLoop [2,3,4] (λl H=>aK P R KI l H) (.ref r) (cU.length+1) done.length (TX si r f) H= .next (TX si r f') H'->H'[di]? =some fj->dy fj (eT cU D)->Kx [di] H H'->C)->C:=by
 induction cU with
 |nil=>
  intro done H so D f hk hr hs hd hD K
  exact K H f so (jr ((cT hr).trans (congrArg some sw))) hd hD Kx.refl
 |cons o t ih=>
  intro done H so D f hk hr hs hd hD K
  have hit:=(cT (k:=done.length) hr).trans (congrArg some wJ)
  rw [Op.Pz] at hit
  refine GD o (hk o (.head _)) hs hd hD R (TX si r (VJ (.int o.tag) (.bytes o.key) (.bytes o.val))) rfl rfl rfl rfl λH1 Mm b1 b2 b3 b4=> ?_
  have GQ:=b4 _ _ (An (cW hr hd (Ne.symm (mQ hD)))) hr
  rw [show done++o::t=(done++ [o])++t from (bZ done [o] t).symm] at GQ
  refine ih (done++ [o]) H1 Mm (o.do D) (VJ (.int o.tag) (.bytes o.key) (.bytes o.val)) (λp hp=>hk p (.tail _ hp)) GQ (b4 _ _ (An (cW hs hd (Ne.symm (en hD)))) hs) b2 b3 λH2 f2 E1 c1 c4 c5 c6=> ?_
  rw [aL] at c1
  exact K H2 f2 E1 (fA hit rfl b1 c1) c4 c5 (b4.trans c6)
theorem uO {si di bi i:Nat}{aU aW:Int}(h:H[si]? =some (bF di bi aU aW))(hf:P.field 16 i=true)(e:km i v [(40, .ref di),(6, .ref bi),(30, .int aU),(33, .int aW)]=fs):bD P (.ref si) i v H=some (H.set si (.inst 16 fs)):=by
 unfold bD
 dsimp only
 rw [h]
 exact (if_pos ⟨hf,show 4<100 by decide⟩).trans (congrArg (λz=>some (H.set si (.inst 16 z))) e)
theorem KJ {H:HP}{si di bi r:Nat}{aU aW:Int}{ops:List Op}{bl:List SV}(hk:∀o∈ops,o.key∈U5)(hr:H[r]? =some (.list (ops.map Op.sv)))(hs:H[si]? =some (bF di bi aU aW))(hd:H[di]? =some so)(hD:dy so D)(hb:H[bi]? =some (.list bl))(hl:bl.length<1000)(Ro:r≠bi)(d:Nat){C:Prop}
  (K:∀H' fj,run P (d+1) 87 [.ref si, .ref r] H= .ok .none H'->H'[si]? =some (bF di bi aU (aW+ops.length))->H'[di]? =some fj->dy fj (eT ops D)->H'[bi]? =some (.list (bl++ [.ref r]))->Kx [si,di,bi] H H'->C):C:=by
 have VD:=cW hs hd (Ne.symm (en hD))
 have Q8:=cW hb hd (Ne.symm (mQ hD))
 have VN:si≠bi:=cW hs hb (fH rfl)
 refine BN (run P d) ops [] H so D (λu8=>none) hk hr hs hd hD λH1 f1 Mm a1 a4 a5 a6=> ?_
 have OT:=a6 _ _ (An VD) hs
 have GU:=a6 _ _ (An Q8) hb
 have e2:=jO (R:=run P d) (v:= .ref r) GU (dR hl (by decide))
 have Nd:=(eN (o:= .list (bl++ [.ref r])) (Ne.symm VN)).trans OT
 have WA:=(eN (o:= .list (bl++ [.ref r])) (Ne.symm Ro)).trans (a6 _ _ (An (cW hr hd (Ne.symm (mQ hD)))) hr)
 have hN:fa (.ref r) H=ops.length:=(dY hr).trans (bI _)
 have hx:Kx [si,di,bi] H ((H1.set bi (.list (bl++ [.ref r]))).set si (bF di bi aU (aW+ops.length))):=λi o hi h=>
  (eN (Ne.symm (List.ne_of_not_mem_cons hi))).trans ((eN λq:bi=i=>hi (q▸ .tail _ (.tail _ (.head _)))).trans (a6 i o (λq=>hi (.tail _ (eF q▸ .head _))) h))
 have ha:eC (.ref si) 33 (H1.set bi (.list (bl++ [.ref r])))= .ok (.int aW) (H1.set bi (.list (bl++ [.ref r]))):=by
  unfold eC
  dsimp only
  rw [Nd];rfl
 exact K _ Mm (bW rfl rfl (ae (f_ (v:= .ref r) rfl (by rw [hN];exact a1)) (ae (bX (aw (aF rfl OT rfl) (bN GU) (aa rfl af) e2)) (ae (AI (a:=aW) (c:=ops.length) rfl ha (bu (aa rfl af) (by rw [ca WA,bI])) rfl (uO Nd rfl rfl)) aj)))) (eA Nd) ((eN VD).trans ((eN Q8).trans a4)) a5 ((eN VN).trans (eA GU)) hx
section
variable {H:HP}{si di bi:Nat}{aU aW:Int}{so:SO}{D:By->Option By}{bl:List SV}
theorem Fq (hs:H[si]? =some (bF di bi aU aW))(hb:H[bi]? =some (.list bl))(d:Nat):run P (d+1) 88 [.ref si] H= .ok .none (H.set si (bF di bi bl.length aW)):=
 bW rfl rfl (ae (bV (bu (aa (aF rfl hs rfl) af) (ca hb)) rfl (uO hs rfl rfl)) aj)
theorem lS (hs:H[si]? =some (bF di bi aU aW))(hb:H[bi]? =some (.list bl))(d:Nat):run P (d+1) 89 [.ref si] H= .ok (.bool (decide (aU=bl.length))) H:=
 aE rfl rfl (aY (bK (fU (aF rfl hs rfl) (bu (aa (aF rfl hs rfl) af) (ca hb)) rfl)))
theorem Gc (hw:Wb H0 (ops.map Op.sv) H)(lG:ops≠ [])(hk:∀o∈ops,o.key∈U5)(hs:H[si]? =some (bF di bi aU aW))(hd:H[di]? =some so)(hD:dy so D)(hb:H[bi]? =some (.list bl))(hl:bl.length<1000)(d:Nat){C:Prop}
  (K:∀H' fj,run P (d+2) 86 [.ref si, .ref H0.length, .bool sync] H= .ok (.int (aW+ops.length)) H'->H'[si]? =some (bF di bi (bif sync then ((bl.length+1:Nat):Int) else aU) (aW+ops.length))->H'[di]? =some fj->dy fj (eT ops D)->H'[bi]? =some (.list (bl++ [.ref H.length]))->H'[H.length]? =some (.list (ops.map Op.sv))->Kx [si,di,bi] H H'->C):C:=by
 have g1:Gr H (H++ [.list (ops.map Op.sv)]):=⟨_,rfl⟩
 have Rp:=(gw hs).1
 have xW:=(gw hb).1
 have Nr:=(gw hd).1
 refine KJ (r:=H.length) hk (dU ..) (g1.at hs) (g1.at hd) hD (g1.at hb) hl (Nat.ne_of_gt xW) d λH2 E1 b1 b2 b3 b4 b5 b6=> ?_
 have b7:=b6 H.length _ (we (Nat.ne_of_gt Rp) (Nat.ne_of_gt Nr) (Nat.ne_of_gt xW)) (dU ..)
 have hz:bU .eq (.int (ops.map Op.sv).length) (.int 0) H=some false:=(i7 _ _ _).trans (congrArg some (aQ λz=>lG (List.eq_nil_of_length_eq_zero ((bI _).symm.trans (Int.ofNat.inj z)))))
 have pre:∀{o:cQ},aK P (run P (d+1)) (.cons (.ifs (.loc 2) (.cons (.expr (.ez (.loc 0) 58 .nil)) .nil) .nil) (.cons (.ret (.attr (.loc 0) 33)) .nil)) [some (.ref si),some (.ref H0.length),some (.bool sync)] H2=o->aK P (run P (d+1)) Ur [some (.ref si),some (.ref H0.length),some (.bool sync)] H=o:=λh=>
  ae (cD (an (aw (R:=run P (d+1)) rfl (o0 hw (f:=37) rfl (by decide) (by decide)) af (Go (d:=d) hw)) rfl hz) aj) (ae (bX (aw (q:= .fn 87) (v:= .ref si) rfl (bN hs) (aa (aw (R:=run P (d+1)) rfl (o0 hw (f:=40) rfl (by decide) (by decide)) af (Sq (d:=d) hw)) af) b1)) h)
 rcases Bool.eq_false_or_eq_true sync with q|q<;>subst q
 ·have e3:=Fq b2 b5 d
  rw [aL] at e3
  have Vd:=eA (o:=bF di bi ((bl.length+ [SV.ref H.length].length:Nat):Int) (aW+ops.length)) b2
  exact K _ E1 (aE rfl rfl (pre (ae (eZ rfl (ae (bX (aw (q:= .fn 88) rfl (bN b2) af e3)) aj)) (aY (bK (aF rfl Vd rfl)))))) Vd ((eN (cW hs hd (Ne.symm (en hD)))).trans b3) b4 ((eN (cW hs hb (fH rfl))).trans b5) ((eN (cV Rp)).trans b7) ((g1.kx.trans b6).trans (pJ (.head _)))
 ·exact K H2 E1 (aE rfl rfl (pre (ae (cD rfl aj) (aY (bK (aF rfl b2 rfl)))))) b2 b3 b4 b5 b7 (g1.kx.trans b6)
end
noncomputable def iL (xs:List Int):List SV:=xs.map .int
theorem qw:∀(xs:List Int),bT (iL xs)=some xs
 | []=>rfl
 |x::r=>by
  show (match bT (iL r) with|some l=>some (x::l)|none=>none)=_
  rw [qw r]
theorem yU:∀{xs:List Int},xs.Pairwise (·< ·)->jJ xs=xs
 | [],_=>rfl
 | [x],_=>rfl
 |x::y::r,h=>by
  rw [List.pairwise_cons] at h
  show xm x (jJ (y::r))=_
  rw [yU h.2]
  exact if_pos (h.1 y (.head _))
theorem AV {R:au}{i k:Nat}(h:l[i]? =some (some (.ref k)))(hl:H[k]? =some (.list vs)):gK P R (.loc i) l H= .ok (!vs.isEmpty) H:=by
 show (match l[i]? with|some (some v)=>ff (eP v H) H|_=> .bad)=_
 rw [h]
 show ff (match H[k]? with|some (.list vs)=>some (!vs.isEmpty)|_=>none) H=_
 rw [hl];rfl
theorem el {k:Nat}(hl:H[k]? =some (.list (vs++ [v]))):dH (.ref k) (.int (-1)) H= .ok v H:=by
 unfold dH
 dsimp only
 rw [hl]
 dsimp only
 have h1:cP (-1) (vs++ [v]).length=true:=by
  unfold cP
  rw [aL,List.length_singleton,bf (by lia),bf (by lia)];rfl
 have h2:cu (-1) (vs++ [v]).length=vs.length:=by
  unfold cu
  rw [if_neg (by decide),aL,List.length_singleton]
  lia
 rw [h1,h2,eJ (bS _),Nat.sub_self];rfl
noncomputable def OI:cA:= .cons (.ifs (.or (.cons (.not (.loc 1)) (.cons (.cmp .ne (.sub (.loc 1) (.neg (.int 1))) (.loc 2)) .nil))) (.cons (.expr (.ez (.loc 1) 1 (.cons (.loc 2) .nil))) .nil) .nil) .nil
theorem JZ {R:au}{o:Nat}{x:Int}(h1:l[1]? =some (some (.ref o)))(h2:l[2]? =some (some (.int x)))(ho:H[o]? =some (.list (iL done)))(hx:∀y∈done,y<x)(hl:done.length<100):aK P R OI l H= .next l (H.set o (.list (iL (done++ [x])))):=by
 have e2:=jO (R:=R) (v:= .int x) ho (by show (iL done).length<4096;unfold iL;rw [bI];exact lB ‹_› rfl)
 have e3:(iL done++ [.int x])=iL (done++ [x]):=by unfold iL;rw [eG];rfl
 rw [e3] at e2
 refine ae (eZ (fC ?_) (ae (bX (aw (bc h1) (bN ho) (aa (bc h2) af) e2)) aj)) aj
 rcases List.eq_nil_or_concat done with q|⟨ys,y,q⟩
 ·subst q
  exact jX (mt (AV h1 ho))
 ·have q' :done=ys++ [y]:=by rw [q];exact List.concat_eq_append ..
  subst q'
  have tz:H[o]? =some (.list (iL ys++ [.int y])):=by rw [ho];unfold iL;rw [eG];rfl
  have Um:=hx y (by simp)
  refine da (mt (q:=true) ?_) (jX (an (aN (bc h1) rfl (el tz)) (bc h2) ((k9 _ _ _).trans (congrArg some ?_))))
  ·have:=AV (R:=R) h1 tz
   rw [this]
   cases iL ys<;>rfl
  ·rw [aQ (by exact iN ‹_›)];rfl
theorem y8 (R:au){H:HP}(hp:xs.Pairwise (·< ·))(hl:xs.length<64):∀(cU done:List Int) (x:Option SV),xs=done++cU->
  ∃l',forLoop [2] (λl H=>aK P R OI l H) (.ref (H.length+1)) (cU.length+1) done.length [some r,some (.ref H.length),x] (H++ .list (iL done):: .list (iL xs):: [])= .next l' (H++ .list (iL xs):: .list (iL xs):: [])/\l'[1]? =some (some (.ref H.length))
 | [],done,x,e=>by
  rw [ch] at e
  subst e
  refine ⟨_,jr ?_,rfl⟩
  rw [cT rX,List.getElem?_eq_none]
  unfold iL
  rw [bI];exact bS _
 |y::t,done,x,e=>by
  obtain ⟨l',h1,h2⟩:=y8 R (H:=H) (r:=r) hp hl t (done++ [y]) (some (.int y)) (by rw [e,bZ];rfl)
  rw [aL (as:=done)] at h1
  have hit:ct (.ref (H.length+1)) done.length (H++ .list (iL done):: .list (iL xs):: [])=some (some (.int y)):=by
   rw [cT rX,e]
   unfold iL
   rw [eG,eJ (by rw [bI];exact bS _),bI,Nat.sub_self]
   rfl
  have b1:=JZ (R:=R) (l:= [some r,some (.ref H.length),some (.int y)]) (H:=H++ .list (iL done):: .list (iL xs):: []) (o:=H.length) (done:=done) (x:=y) rfl rfl nQ (λz hz=>by
   rw [e,List.pairwise_append] at hp
   exact hp.2.2 z hz y (.head _)) (by
   rw [e,aL] at hl
   lia)
  rw [x4] at b1
  exact ⟨l',fA hit rfl b1 h1,h2⟩
theorem rO {r:Nat}(hr:H[r]? =some (.list (iL xs)))(hp:xs.Pairwise (·< ·))(hl:xs.length<64)(d:Nat):∃H' k,run P (d+1) 43 [.ref r] H= .ok (.ref k) H' /\Gr H H' /\H'[k]? =some (.list (iL xs)):=by
 refine aZ (y8 (run P d) (H:=H) (r:= .ref r) hp hl xs [] none rfl) λl' h1 h2=> ?_
 have g:Gr H (H++ [SO.list []]):=⟨_,rfl⟩
 have hs:Mine.bH Bi.sorted [.ref r] (H++ [SO.list []])= .ok (.ref (H.length+1)) (H++ .list (iL []):: .list (iL xs):: []):=by
  show (match (H++ [SO.list []])[r]? with
   |some (.list vs)=>(match bT vs with
    |some l=>if l.length<64 then du.ok (SV.ref (H++ [SO.list []]).length) ((H++ [SO.list []])++ [SO.list ((jJ l).map SV.int)]) else .bad
    |none=> .bad)
   |some (.cg es)=>if es.length<64 then .ok (.ref (H++ [SO.list []]).length) ((H++ [SO.list []])++ [SO.list ((jF (es.map λz:By×SV=>z.1)).map SV.bytes)]) else .bad
   |some .aM=> .ok (.ref (H++ [SO.list []]).length) ((H++ [SO.list []])++ [SO.list []])
   |_=> .bad)=_
  rw [g.at hr]
  dsimp only
  rw [qw]
  dsimp only
  rw [if_pos hl,yU hp,aL,nf];rfl
 have hN:fa (.ref (H.length+1)) (H++ .list (iL []):: .list (iL xs):: [])=xs.length:=by
  show (match (H++SO.list (iL [])::SO.list (iL xs):: [])[H.length+1]? with|some (.list vs)=>vs.length|_=>0)=_
  rw [rX]
  exact bI _
 exact ⟨_,H.length,aE rfl rfl (ae (bJ (bG af)) (ae (f_ (v:= .ref (H.length+1)) (bu (aa rfl af) hs) (by rw [hN];exact h1)) (aY (bK (bc h2))))),⟨_,rfl⟩,nQ⟩
noncomputable def fP (m:Nat):List Int:=(List.range m).map λ(k:Nat)=>((k:Int)+1:Int)
noncomputable def OD (v a b c:Nat):SO:= .inst 13 [(65, .ref v),(34, .ref a),(44, .ref b),(35, .ref c),(5, .bool false)]
structure d0 (H:HP)(k:Nat)(xs:List Int):Prop where
 ex:∃v a b c,H[k]? =some (OD v a b c)/\H[v]? =some (.list (iL xs))/\H[a]? =some (.list (iL []))/\H[b]? =some (.list (iL []))/\H[c]? =some (.list (iL []))
theorem d0.gr {k:Nat}(h:d0 H k xs)(g:Gr H H'):d0 H' k xs:=by
 refine BL h.ex λv a b c h1 h2 h3 h4 h5=> ?_
 exact ⟨v,a,b,c,g.at h1,g.at h2,g.at h3,g.at h4,g.at h5⟩
theorem zO {c i:Nat}{fs fs' :List (Nat×SV)}(hf:P.field c i=true)(hl:fs.length<100)(e:km i v fs=fs'):bD P (.ref H.length) i v (H++ .inst c fs::G)=some (H++ .inst c fs' ::G):=e▸tA hf hl
theorem yG {H:HP}{r1 r2 r3 r4:Nat}(h1:H[r1]? =some (.list (iL xs)))(h2:H[r2]? =some (.list (iL [])))(h3:H[r3]? =some (.list (iL [])))(h4:H[r4]? =some (.list (iL [])))(hp:xs.Pairwise (·< ·))(hl:xs.length<64)(d:Nat):
  ∃H',run P (d+2) 50 [.ref H.length, .ref r1, .ref r2, .ref r3, .ref r4, .bool false] (H++ [.inst 13 []])= .ok .none H' /\Gr H H' /\d0 H' H.length xs:=by
 have g0:Gr H (H++SO.inst 13 []:: []):=⟨_,rfl⟩
 obtain ⟨H1,k1,e1,⟨G1,q1⟩,m1⟩:=rO (g0.at h1) hp hl d
 rw [nf] at q1
 subst q1
 have g1:Gr H (H++SO.inst 13 [(65, .ref k1)]::([]++G1)):=⟨_,rfl⟩
 obtain ⟨H2,k2,e2,⟨G2,q2⟩,m2⟩:=rO (g1.at h2) .nil (by decide) d
 rw [nf] at q2
 subst q2
 have g2:Gr H (H++SO.inst 13 [(65, .ref k1),(34, .ref k2)]::([]++G1++G2)):=⟨_,rfl⟩
 obtain ⟨H3,k3,e3,⟨G3,q3⟩,m3⟩:=rO (g2.at h3) .nil (by decide) d
 rw [nf] at q3
 subst q3
 have g3:Gr H (H++SO.inst 13 [(65, .ref k1),(34, .ref k2),(44, .ref k3)]::([]++G1++G2++G3)):=⟨_,rfl⟩
 obtain ⟨H4,k4,e4,⟨G4,q4⟩,m4⟩:=rO (g3.at h4) .nil (by decide) d
 rw [nf] at q4
 subst q4
 have mv:∀{k:Nat} {fs fs' :List (Nat×SV)} {G G' :HP} {vs:List SV},(H++ .inst 13 fs::G)[k]? =some (.list vs)->(H++ .inst 13 fs' ::(G++G'))[k]? =some (.list vs):=λ{k fs fs' G G' vs} h=>by
  rcases Nat.lt_or_ge k H.length with q|q
  ·rw [iT q] at h⊢;exact h
  ·rw [eJ q] at h⊢
   cases j:k - H.length with
   |zero=>rw [j] at h;cases h
   |succ j' =>
    rw [j] at h
    rw [List.getElem?_cons_succ] at h⊢
    rw [iT (gw h).1];exact h
 have YQ:∀{k:Nat} {fs fs' :List (Nat×SV)} {G:HP} {vs:List SV},(H++ .inst 13 fs::G)[k]? =some (.list vs)->(H++ .inst 13 fs' ::G)[k]? =some (.list vs):=λ{k fs fs' G vs} h=>by
  have:=mv (fs' :=fs') (G' := []) h
  rwa [ch] at this
 refine ⟨_,bW rfl rfl (ae (bV (cz (aa rfl af) e1) rfl (zO (fs' := [(65, .ref k1)]) rfl (show 0<100 by decide) rfl)) (ae (bV (cz (aa rfl af) e2) rfl (zO (fs' := [(65, .ref k1),(34, .ref k2)]) rfl (show 1<100 by decide) rfl))
  (ae (bV (cz (aa rfl af) e3) rfl (zO (fs' := [(65, .ref k1),(34, .ref k2),(44, .ref k3)]) rfl (show 2<100 by decide) rfl)) (ae (bV (cz (aa rfl af) e4) rfl (zO (fs' := [(65, .ref k1),(34, .ref k2),(44, .ref k3),(35, .ref k4)]) rfl (show 3<100 by decide) rfl))
  (ae (bV rfl rfl (zO (fs' := [(65, .ref k1),(34, .ref k2),(44, .ref k3),(35, .ref k4),(5, .bool false)]) rfl (show 4<100 by decide) rfl)) aj))))),⟨_,rfl⟩,k1,k2,k3,k4,nQ, ?_, ?_, ?_, ?_⟩
 ·exact mv (G' :=G4) (mv (G' :=G3) (fs' := []) (mv (G' :=G2) (fs' := []) m1))
 ·exact mv (G' :=G4) (mv (G' :=G3) (fs' := []) m2)
 ·exact mv (G' :=G4) m3
 ·exact YQ m4
noncomputable def jg (xs:List Int):By:=(xs.length:Int)::xs
noncomputable def dC (xs:List Int):By:=jg xs++ [0,0,0,0]
noncomputable def SF:cA:= .cons (.expr (.ez (.loc 0) 64 (.cons (.loc 2) .nil))) .nil
theorem xi {n:Int}(h:n<128):vb n= [n]:=if_pos h
theorem yx {r:Nat}(hx:∀x∈xs,0<=x/\x<128)(hr:H0[r]? =some (.list (iL xs)))(d:Nat):∀(cU done:List Int) (H:HP) (bs:By) (z:Option SV),xs=done++cU->Sk H0 bs H->bs.length+3*cU.length+10<=big->
  ∃H' l',forLoop [2] (λl H=>aK P (run P (d+3)) SF l H) (.ref r) (cU.length+1) done.length [some (.ref H0.length),some (.ref r),z] H= .next l' H' /\Sk H0 (bs++cU) H'
 | [],done,H,bs,z,e,s,hl=>by
  rw [ch] at e
  subst e
  refine ⟨H,_,jr ?_,by rw [ch];exact s⟩
  rw [cT (s.gr.at hr),List.getElem?_eq_none]
  unfold iL
  rw [bI];exact bS _
 |y::t,done,H,bs,z,e,s,hl=>by
  obtain ⟨y0,y1⟩:=hx y (by rw [e];simp)
  rw [dq] at hl
  refine aZ (gi (d:=d) s y0 (Int.lt_trans y1 (by decide)) (by lia)) λH1 e1 s1=> ?_
  rw [xi y1] at s1
  obtain ⟨H2,l2,c1,c2⟩:=yx hx hr d t (done++ [y]) H1 (bs++ [y]) (some (.int y)) (by rw [e,bZ];rfl) s1 (by rw [aL,List.length_singleton];lia)
  rw [aL (as:=done)] at c1
  have hit:ct (.ref r) done.length H=some (some (.int y)):=by
   rw [cT (s.gr.at hr),e]
   unfold iL
   rw [eG,eJ (by rw [bI];exact bS _),bI,Nat.sub_self]
   rfl
  refine ⟨H2,l2,fA hit rfl (ae (bX (aw rfl (fy s 64) (aa rfl af) e1)) aj) c1, ?_⟩
  rw [bZ] at c2;exact c2
theorem pG {r:Nat}(hx:∀x∈xs,0<=x/\x<128)(hl:xs.length<100)(hb:bs.length<=1000)(hr:H0[r]? =some (.list (iL xs)))(s:Sk H0 bs H)(d:Nat):∃H',run P (d+4) 53 [.ref H0.length, .ref r] H= .ok .none H' /\Sk H0 (bs++jg xs) H' :=by
 obtain ⟨H1,e1,s1⟩:=gi (n:=xs.length) (d:=d) s (fD _) (by exact iF ‹_› rfl) (by show bs.length+2<=4096;lia)
 rw [xi (show (xs.length:Int)<128 by exact iF ‹_› rfl)] at s1
 obtain ⟨H2,l2,c1,c2⟩:=yx hx hr d xs [] H1 (bs++ [(xs.length:Int)]) none rfl s1 (by rw [aL,List.length_singleton];show _<=4096;lia)
 have wF:=ca (s.gr.at hr)
 rw [show (iL xs).length=xs.length from bI _] at wF
 have hN:fa (.ref r) H1=xs.length:=by
  show (match H1[r]? with|some (.list vs)=>vs.length|_=>0)=_
  rw [s1.gr.at hr]
  exact bI _
 refine ⟨H2,bW rfl rfl (ae (bX (aw rfl (fy s 64) (aa (bu (aa rfl af) wF) af) e1)) (ae (f_ (v:= .ref r) rfl (by rw [hN];exact c1)) aj)), ?_⟩
 rw [bZ] at c2;exact c2
theorem oQ {k:Nat}(h:d0 H k xs)(hx:∀x∈xs,0<=x/\x<128)(hl:xs.length<100)(d:Nat):∃H',run P (d+5) 55 [.ref k] H= .ok (.bytes (dC xs)) H' /\Gr H H' :=by
 refine BL h.ex λv a b c h1 h2 h3 h4 h5=> ?_
 refine aZ (uc (d+3) [some (.ref k),none] H) λH1 e1 s1=> ?_
 refine aZ (pG hx hl (by decide) h2 s1 d) λH2 e2 s2=> ?_
 have n0:∀x∈([]:List Int),0<=x/\x<128:=λx z=>j1 z
 have l2:(([]:By)++jg xs).length<=200:=by show xs.length+1<=200;lia
 refine aZ (pG n0 (by decide) (by exact lA ‹_› rfl) h3 s2 d) λH3 e3 s3=> ?_
 have l3:(([]:By)++jg xs++jg []).length<=300:=by rw [aL];show _+1<=300;lia
 refine aZ (pG n0 (by decide) (by exact lA ‹_› rfl) h4 s3 d) λH4 e4 s4=> ?_
 have l4:(([]:By)++jg xs++jg []++jg []).length<=400:=by rw [aL];show _+1<=400;lia
 refine aZ (pG n0 (by decide) (by exact lA ‹_› rfl) h5 s4 d) λH5 e5 s5=> ?_
 have l5:(([]:By)++jg xs++jg []++jg []++jg []).length<=500:=by rw [aL];show _+1<=500;lia
 obtain ⟨H6,e6,s6⟩:=rV (d:=d+3) (b:=false) s5 (by show _<4096;exact lC ‹_› rfl)
 have e7:=oZ (d:=d+3) s6
 rw [show (([]:By)++jg xs++jg []++jg []++jg []++ [if false=true then 1 else 0])=dC xs by unfold dC;simp [jg]] at e7
 have q0:∀{R:au} {l:cR} {H' :HP} {i:Nat} {u:SV},Gr H H'->l[0]? =some (some (.ref k))->fO i [(65, .ref v),(34, .ref a),(44, .ref b),(35, .ref c),(5, .bool false)]=some u->bj P R (.attr (.loc 0) i) l H' = .ok u H' :=λg hl hv=>aF (bc hl) (g.at h1) hv
 exact ⟨H6,aE rfl rfl (ae (bJ e1) (ae (bX (cz (aa rfl (aa (q0 s1.gr rfl rfl) af)) e2)) (ae (bX (cz (aa rfl (aa (q0 s2.gr rfl rfl) af)) e3)) (ae (bX (cz (aa rfl (aa (q0 s3.gr rfl rfl) af)) e4))
  (ae (bX (cz (aa rfl (aa (q0 s4.gr rfl rfl) af)) e5)) (ae (bX (aw rfl (fy s5 26) (aa (q0 s5.gr rfl rfl) af) e6)) (aY (bK (aw rfl (fy s6 19) af e7))))))))),s6.gr⟩
section
variable {H:HP}{si di bi mi:Nat}{aU aW applied term aO:Int}{aP:By}{sync:Bool}{so:SO}{D:By->Option By}{bl:List SV}
theorem mm {i:Nat}(h:H[mi]? =some (.inst 15 fs))(hf:P.field 15 i=true)(hl:fs.length<100)(e:km i v fs=fs'):bD P (.ref mi) i v H=some (H.set mi (.inst 15 fs')):=by
 unfold bD
 dsimp only
 rw [h]
 dsimp only
 rw [if_pos ⟨hf,hl⟩,e]
theorem zD {mi si i:Nat}{a t dd:Int}(h:H[mi]? =some o)(hf:P.field 15 i=true)(e:km i v [(57, .ref si),(2, .int a),(62, .int t),(11, .bytes c),(20, .int dd),(59, .bool b)]=fs):bD P (.ref mi) i v (H.set mi (aX si a t c dd b))=some (H.set mi (.inst 15 fs)):=
 have h2:(H.set mi (aX si a t c dd b))[mi]? =some (aX si a t c dd b):=eA h
 (mm h2 hf (show 6<100 by decide) e).trans (congrArg some (List.set_set ..))
theorem DP {mi si i:Nat}{a t dd:Int}(h:H[mi]? =some (aX si a t c dd b))(hf:P.field 15 i=true)(e:km i v [(57, .ref si),(2, .int a),(62, .int t),(11, .bytes c),(20, .int dd),(59, .bool b)]=fs):bD P (.ref mi) i v H=some (H.set mi (.inst 15 fs)):=mm h hf (show 6<100 by decide) e
theorem pk (hm:H[mi]? =some (aX si applied term aP aO sync))(hs:H[si]? =some (bF di bi aU aW))(hb:H[bi]? =some (.list bl))(hk:aU=bl.length)(d:Nat):run P (d+2) 71 [.ref mi] H= .ok .none (H.set mi (aX si applied term aP applied sync)):=by
 have e1:=lS hs hb d
 rw [bf hk] at e1
 exact bW rfl rfl (ae (eZ (Bg (k:= .fn 89) (v:= .ref si) (aF rfl hm rfl) (bN hs) af e1) (ae (bV (aF rfl hm rfl) rfl (mm hm rfl (show 6<100 by decide) rfl)) aj)) aj)
theorem QU (hm:H[mi]? =some (aX si applied term aP aO sync))(hs:H[si]? =some (bF di bi aU aW))(hb:H[bi]? =some (.list bl))(hk:aU≠bl.length)(d:Nat):run P (d+2) 71 [.ref mi] H= .ok .none H:=by
 have e1:=lS hs hb d
 rw [aQ hk] at e1
 exact bW rfl rfl (ae (cD (Bg (k:= .fn 89) (v:= .ref si) (aF rfl hm rfl) (bN hs) af e1) aj) aj)
theorem Oo {k:By}(hk:k.length<=1000)(hm:H[mi]? =some (aX si applied term aP aO sync))(hs:H[si]? =some (bF di bi aU aW))(hd:H[di]? =some so)(hD:dy so D)(d:Nat):run P (d+2) 78 [.ref mi, .bytes k] H= .ok (ob (D (100::k))) H:=
 aE rfl rfl (aY (bK (aw (q:= .fn 90) (v:= .ref si) (aF rfl hm rfl) (bN hs) (aa (cz (aa rfl af) (vE hk d H)) af) (xa hs hd hD d))))
end
theorem Kw {R:au}{n:Int}(h:bj P R e l H= .ok (.int n) H'):gJ P R (.expr e) l H= .next l H' :=by
 show (bj P R e l H).then l _=_
 rw [h];rfl
theorem qy {R:au}{i:Nat}(h:bj P R (.attr e i) l H= .ok (.bool q) H'):gK P R (.attr e i) l H= .ok q H' :=by
 show (bj P R (.attr e i) l H).bind _=_
 rw [h];rfl
theorem bQ {H:HP}{m:Nat}{o:SO}{j:Nat}(h:j≠m)(hj:H[j]? =some x):(H.set m o)[j]? =some x:=(eN (Ne.symm h)).trans hj
theorem zg {H H1 H2:HP}{mi si di bi:Nat}(g:Gr H H1)(k:Kx [si,di,bi] H1 H2):Kx [mi,si,di,bi] H (H2.set mi o):=λu8 u8 hj h=>bQ (List.ne_of_not_mem_cons hj) (k _ _ (List.not_mem_of_not_mem_cons hj) (g.at h))
noncomputable def Ap (ops:List Op)(i t:Int)(cb:By):List Op:=ops++ [Op.put [97] (fz i t cb)]
theorem mL {ops:List Op}{i t:Int}(h:∀o∈ops,o.key∈U5):∀o∈Ap ops i t cb,o.key∈U5:=λo ho=>(gf ho).elim (h o) λq=>eF q▸ .head _
section
variable {H0 H:HP}{si di bi mi e:Nat}{aU aW applied term aO:Int}{aP:By}{so:SO}{D:By->Option By}{bl:List SV}{t i k:Int}{data:By}
theorem zx {ops:List Op}{cb:By}(hm:H0[mi]? =some (aX si applied term aP aO sync))(hs:H0[si]? =some (bF di bi aU aW))(hd:H0[di]? =some so)(hD:dy so D)(hb:H0[bi]? =some (.list bl))(he:H0[e]? =some (kZ t i k data))
  (hw:Wb H0 (ops.map Op.sv) H) (hk:∀o∈ops,o.key∈U5) (hl:ops.length<50) (xW:bl.length<1000) (i0:0<=i) (i1:i<16384) (t0:0<=t) (t1:t<16384) (hc:cb.length<100) (d:Nat) {C:Prop}
  (K:∀H' fj r,aK P (run P (d+5)) (bx 7 HN) [some (.ref mi),some (.ref e),some cf,some (.bytes cb),some (.ref H0.length),some dh,some cmd] H= .ret dh H'->H'[mi]? =some (aX si i t cb (bif sync then i else aO) sync)->
   H'[si]? =some (bF di bi (bif sync then ((bl.length+1:Nat):Int) else aU) (aW+(ops.length+1)))->H'[di]? =some fj->dy fj (eT (Ap ops i t cb) D)->H'[bi]? =some (.list (bl++ [.ref r]))->H'[r]? =some (.list ((Ap ops i t cb).map Op.sv))->Kx [mi,si,di,bi] H0 H'->C):C:=by
 have g0:=hw.gr
 obtain ⟨H1,e1,s1⟩:=pt (index:=i) (term:=t) (aP:=cb) hm hw (by rw [bI];exact dR hl (by decide)) i0 i1 t0 t1 hc (d+1)
 have WY:Wb H0 ((Ap ops i t cb).map Op.sv) H1:=(eG (f:=Op.sv) (l₁:=ops) (l₂:= [Op.put [97] (fz i t cb)])).symm▸s1
 have g1:=s1.gr
 refine Gc (sync:=sync) WY (λz=>nomatch (List.append_eq_nil_iff.mp z).2) (mL hk) (g1.at hs) (g1.at hd) hD (g1.at hb) xW (d+3) λH2 E1 w1 w2 w3 w4 w5 w6 w7=> ?_
 have ml:=Nat.ne_of_gt (Nat.lt_of_lt_of_le (gw hm).1 g1.le)
 have PV:mi∉ [si,di,bi]:=we (cW hm hs (fH rfl)) (cW hm hd (Ne.symm (en hD))) (cW hm hb (fH rfl))
 have Wt:e∉ [si,di,bi]:=we (cW he hs (fH rfl)) (cW he hd (Ne.symm (en hD))) (cW he hb (fH rfl))
 have m4:e≠mi:=cW he hm (fH rfl)
 have Io:=w7 mi _ PV (g1.at hm)
 have QD:=w7 e _ Wt (g1.at he)
 have em:((Ap ops i t cb).length:Int)=ops.length+1:=congrArg Int.ofNat aL
 rw [em] at w1 w2
 have off:∀{o:SO} {j:Nat} {x:SO},j≠mi->H2[j]? =some x->(H2.set mi o)[j]? =some x:=λhj hx=>bQ hj hx
 have S5:si≠mi:=Ne.symm (List.ne_of_not_mem_cons PV)
 have T6:bi≠mi:=cW hb hm (fH rfl)
 have UF:di≠mi:=cW hd hm (en hD)
 have f3:(H2.set mi (aX si i t cb aO sync))[mi]? =some (aX si i t cb aO sync):=eA Io
 have go:∀{H' :HP},gJ P (run P (d+5)) (cK (bx 12 HN)) [some (.ref mi),some (.ref e),some cf,some (.bytes cb),some (.ref H0.length),some dh,some cmd] (H2.set mi (aX si i t cb aO sync))= .next [some (.ref mi),some (.ref e),some cf,some (.bytes cb),some (.ref H0.length),some dh,some cmd] H'->
   aK P (run P (d+5)) (bx 7 HN) [some (.ref mi),some (.ref e),some cf,some (.bytes cb),some (.ref H0.length),some dh,some cmd] H= .ret dh H' :=λh=>
  ae (bX (aw (q:= .fn 72) (v:= .ref mi) rfl (bN (g0.at hm)) (aa rfl (aa (aF rfl (g0.at he) rfl) (aa (aF rfl (g0.at he) rfl) (aa rfl af)))) e1)) (ae (Kw (aw (q:= .fn 86) (v:= .ref si) (aF rfl (g1.at hm) rfl) (bN (g1.at hs)) (aa rfl (aa (aF rfl (g1.at hm) rfl) af)) w1))
   (ae (bV (aF rfl QD rfl) rfl (DP Io rfl rfl)) (ae (bV (aF rfl (off m4 QD) rfl) rfl (zD Io rfl rfl)) (ae (bV rfl rfl (zD Io rfl rfl)) (ae h (aY (bK rfl)))))))
 rcases Bool.eq_false_or_eq_true sync with q|q<;>subst q
 ·have f4:=pk (d:=d+3) f3 (off S5 w2) (off T6 w5) (by rw [aL];rfl)
  rw [List.set_set] at f4
  exact K _ E1 H1.length (go (eZ (qy (aF rfl f3 rfl)) (ae (bX (aw (q:= .fn 71) (v:= .ref mi) rfl (bN f3) af f4)) aj))) (eA Io) (off S5 w2) (off UF w3) w4 (off T6 w5) (off ml w6) (zg g1 w7)
 ·exact K _ E1 H1.length (go (cD (qy (aF rfl f3 rfl)) aj)) f3 (off S5 w2) (off UF w3) w4 (off T6 w5) (off ml w6) (zg g1 w7)
end
structure AS where
 now:By->Option By
 S:Bool->kN
 idx:Int
 term:Int
 aP:By
noncomputable def fo (s:Int×Bool×By):By:=yQ s.1 s.2.1 s.2.2
noncomputable def fW (a:AS):By->Option By:=λk=>
 if k= [97] then some (fz a.idx a.term a.aP) else if k= [100] then a.now [] else if k= [100,107] then a.now [107] else
 if k=de false then (a.S false).map fo else if k=de true then (a.S true).map fo else none
noncomputable def dm (c:iX)(cx:Option By):Option (Option By):=
 if idle c then none else
 if c.kind=1 then some (some c.value) else
 if c.kind=2 then (match cx with
  |some _=>some none
  |none=>none) else
 if c.kind=3 then (if cx=c.expect then some (some c.value) else none) else
 match cx with
  |none=>some (some c.value)
  |some o=>some (some (o++c.value))
noncomputable def vS (k:By):Option (Option By)->List Op
 |none=> []
 |some none=> [.del k]
 |some (some v)=> [.put k v]
theorem BR (c:iX)(cx:Option By):lq c cx=(vS (dj c) (dm c cx)).map Op.sv:=by
 unfold lq dm
 split
 ·rfl
 split
 ·rfl
 split
 ·cases cx<;>rfl
 split
 ·split<;>rfl
 cases cx<;>rfl
noncomputable def i9 (c:iX)(S:kN):Bool:= !(decide (c.number=cG S)||(decide (c.number<cG S)||(!cX S&& !decide (c.kind=5))))
noncomputable def pD (c:iX)(cx:Option By):Int×Bool×By:=(c.number, !decide (c.kind=6),bE c cx)
noncomputable def kK (c:iX)(w:Bool)(S:kN)(cx:Option By):List Op:=
 if i9 c S then vS (dj c) (dm c cx)++ [.put (de w) (fo (pD c cx))] else []
theorem D5 (c:iX)(w:Bool)(S:kN)(cx:Option By):AL c w S cx=(kK c w S cx).map Op.sv:=by
 unfold AL kK i9
 by_cases h1:c.number=cG S
 ·rw [if_pos h1,bf h1];rfl
 rw [if_neg h1,aQ h1]
 by_cases h2:c.number<cG S
 ·rw [if_pos h2,bf h2];rfl
 rw [if_neg h2,aQ h2]
 by_cases h3:(!cX S&& !decide (c.kind=5))=true
 ·rw [if_pos h3,h3];rfl
 rw [if_neg h3,Bool.eq_false_iff.mpr h3,BR]
 show _=List.map Op.sv (vS (dj c) (dm c cx)++ [.put (de w) (fo (pD c cx))])
 rw [eG]
 rfl
inductive rA where
 |no|cmd (c:iX) (w:Bool)
inductive f9 (kind:Int)(data:By):rA->Prop where
 |idle (h:kind=2∨data= []):f9 kind data .no
 |more (h:kind≠2) (c:iX) (ok:c.Ok) (x:Int) (e:data=c.enc++ [x]):f9 kind data .no
 |Bb (h:kind≠2) (c:iX) (ok:c.Ok) (h6:6<c.kind) (e:data=c.enc):f9 kind data .no
 |cmd (h:kind≠2) (c:iX) (w:Bool) (ok:c.Ok) (h6:c.kind<=6) (e:data=c.enc) (hc:c.d7=cl w) (hk:c.key= []∨c.key= [107]) (hv:c.value.length=1):f9 kind data (.cmd c w)
noncomputable def jA (a:AS):rA->List Op
 | .no=> []
 | .cmd c w=>kK c w (a.S w) (a.now c.key)
noncomputable def mA (a:AS):rA->Option By
 | .no=>none
 | .cmd c w=>some (f6 c (a.S w) (a.now c.key))
noncomputable def Nh (k:By)(v:Option (Option By))(f:By->Option By):By->Option By:=match v with
 |none=>f
 |some v=>λx=>if x=k then v else f x
noncomputable def yc (a:AS):rA->By->Option By
 | .no=>a.now
 | .cmd c w=>if i9 c (a.S w) then Nh c.key (dm c (a.now c.key)) a.now else a.now
noncomputable def Qi (a:AS):rA->Bool->kN
 | .no=>a.S
 | .cmd c w=>if i9 c (a.S w) then λx=>if x=w then some (pD c (a.now c.key)) else a.S x else a.S
noncomputable def Ge (a:AS)(i t:Int)(cb:By)(wh:rA):AS:=⟨yc a wh,Qi a wh,i,t,cb⟩
theorem kL:∀(xs ys:List Op) (D:By->Option By),eT (xs++ys) D=eT ys (eT xs D)
 | [],_,_=>rfl
 |o::r,ys,D=>kL r ys (o.do D)
theorem Bn (a:AS)(i t:Int)(cb:By):eT [Op.put [97] (fz i t cb)] (fW a)=fW {a with idx:=i,term:=t,aP:=cb}:=by
 funext k
 show (if k= [97] then some (fz i t cb) else fW a k)=_
 unfold fW
 by_cases h:k= [97]
 ·rw [if_pos h,if_pos h]
 ·rw [if_neg h,if_neg h,if_neg h]
theorem wu (c:iX)(hk:c.key= []∨c.key= [107]):dj c= [100]/\c.key= []∨dj c= [100,107]/\c.key= [107]:=by
 unfold dj
 rcases hk with h|h<;>rw [h]
 ·exact .inl ⟨rfl,rfl⟩
 ·exact .inr ⟨rfl,rfl⟩
theorem IG (a:AS)(c:iX)(hk:c.key= []∨c.key= [107])(v:Option (Option By)):eT (vS (dj c) v) (fW a)=fW {a with now:=Nh c.key v a.now}:=by
 have key:∀v:Option By,(λx=>if x=dj c then v else fW a x)=fW {a with now:=λx=>if x=c.key then v else a.now x}:=λv=>by
  funext k
  unfold fW
  rcases wu c hk with ⟨h1,h2⟩|⟨h1,h2⟩
  ·rw [h1,h2]
   dsimp only
   by_cases q:k= [100]
   ·subst q
    rw [if_pos rfl,if_neg (by decide),if_pos rfl,if_pos rfl]
   ·rw [if_neg q,if_neg q,if_neg q,if_neg (show ¬([107]:By)= [] by decide)]
  ·rw [h1,h2]
   dsimp only
   by_cases q:k= [100,107]
   ·subst q
    rw [if_pos rfl,if_neg (by decide),if_neg (by decide),if_pos rfl,if_pos rfl]
   ·rw [if_neg q,if_neg q,if_neg q,if_neg (show ¬([]:By)= [107] by decide)]
 match v with
 |none=>rfl
 |some none=>exact key none
 |some (some v)=>exact key (some v)
theorem LA (w:Bool):de w≠ [97]/\de w≠ [100]/\de w≠ [100,107]:=by cases w<;>decide
theorem JT:de true≠de false:=by decide
theorem js (a:AS)(w:Bool):fW a (de w)=(a.S w).map fo:=by
 unfold fW
 refine rB (LA w) λh1 h2 h3=> ?_
 rw [if_neg h1,if_neg h2,if_neg h3]
 cases w
 ·rw [if_pos rfl]
 ·rw [if_neg JT,if_pos rfl]
theorem BO (a:AS)(c:iX)(hk:c.key= []∨c.key= [107]):fW a (dj c)=a.now c.key:=by
 unfold fW
 rcases wu c hk with ⟨h1,h2⟩|⟨h1,h2⟩<;>rw [h1,h2]
 ·rw [if_neg (by decide),if_pos rfl]
 ·rw [if_neg (by decide),if_neg (by decide),if_pos rfl]
theorem DN (a:AS)(w:Bool)(s:Int×Bool×By):eT [Op.put (de w) (fo s)] (fW a)=fW {a with S:=λx=>if x=w then some s else a.S x}:=by
 funext k
 show (if k=de w then some (fo s) else fW a k)=_
 by_cases h:k=de w
 ·rw [if_pos h,h,js]
  dsimp only
  rw [if_pos rfl];rfl
 ·rw [if_neg h]
  unfold fW
  dsimp only
  cases w
  ·rw [if_neg h,if_neg h,if_neg (show ¬true=false by decide)]
  ·rw [if_neg (show ¬false=true by decide)]
   split
   ·rfl
   split
   ·rfl
   split
   ·rfl
   split
   ·rfl
   rfl
theorem CU (a:AS)(c:iX)(w:Bool)(hk:c.key= []∨c.key= [107]):eT (jA a (.cmd c w)) (fW a)=fW {a with now:=yc a (.cmd c w),S:=Qi a (.cmd c w)}:=by
 unfold jA yc Qi kK
 dsimp only
 cases i9 c (a.S w) with
 |false=>rfl
 |true=>
  show eT (_++_) _=fW {a with now:=Nh c.key (dm c (a.now c.key)) a.now,S:=λx=>if x=w then some (pD c (a.now c.key)) else a.S x}
  rw [kL,IG a c hk,DN]
theorem A3 (a:AS)(i t:Int)(cb:By){kind:Int}(h:f9 kind data wh):eT (jA a wh++ [Op.put [97] (fz i t cb)]) (fW a)=fW (Ge a i t cb wh):=by
 rw [kL]
 cases h with
 |cmd _ c w _ _ _ _ hk _=>rw [CU a c w hk,Bn];rfl
 |idle|more|Bb=>exact Bn a i t cb
theorem sR (a:AS){kind:Int}(h:f9 kind data wh):∀o∈jA a wh,o.key∈U5:=by
 cases h with
 |idle|more|Bb=>exact λo ho=>j1 ho
 |cmd _ c w _ _ _ _ hk _=>
  intro o ho
  unfold jA kK at ho
  dsimp only at ho
  split at ho
  ·rcases gf ho with ho|ho
   ·have:o.key=dj c:=by
     revert ho
     generalize dm c (a.now c.key)=v
     intro ho
     match v with
     |none=>exact j1 ho
     |some none=>rw [eF ho];rfl
     |some (some v)=>rw [eF ho];rfl
    rw [this]
    rcases wu c hk with ⟨h1,_⟩|⟨h1,_⟩<;>rw [h1]<;>decide
   ·rw [eF ho]
    show de w∈U5
    cases w<;>decide
  ·exact j1 ho
theorem CW (a:AS)(wh:rA):(jA a wh).length<=2:=by
 cases wh with
 |no=>exact Nat.zero_le _
 |cmd c w=>
  unfold jA kK
  dsimp only
  split
  ·generalize dm c (a.now c.key)=v
   match v with
   |none=>exact Nat.le_succ _
   |some none=>exact bS _
   |some (some v)=>exact bS _
  ·exact Nat.zero_le _
noncomputable def Kr:SV->Prop
 | .ref _=>False
 |_=>True
noncomputable def nx:SO->Prop
 | .list vs=>∀v∈vs,Kr v
 | .inst c _=>c≠15/\c≠16
 | .cw _=>True
 |_=>False
noncomputable def Kp (H H' :HP):Prop:=∀(i:Nat) (o:SO),H[i]? =some o->nx o->H'[i]? =some o
theorem Kp.trans {H H1 H2:HP}(a:Kp H H1)(b:Kp H1 H2):Kp H H2:=λi o h p=>b i o (a i o h p) p
theorem Gr.kp (a:Gr H H1):Kp H H1:=λi o e u8=>a.at e
theorem kh (xs:List Int):nx (.list (iL xs)):=λv hv=>by
 refine aZ (gH hv) λx u8 dc=> ?_;subst dc
 exact True.intro
theorem d0.kp {k:Nat}(h:d0 H k xs)(g:Kp H H'):d0 H' k xs:=by
 refine BL h.ex λv a b c h1 h2 h3 h4 h5=> ?_
 exact ⟨v,a,b,c,g _ _ h1 ⟨by decide,by decide⟩,g _ _ h2 (kh _),g _ _ h3 (kh _),g _ _ h4 (kh _),g _ _ h5 (kh _)⟩
inductive oq (H:HP):SV->Option (List Int)->Prop where
 |no:oq H .none none
 |yes (r:Nat) (xs:List Int) (h:d0 H r xs) (hx:∀x∈xs,0<=x/\x<128) (hl:xs.length<50):oq H (.ref r) (some xs)
theorem oq.kp (h:oq H v m)(g:Kp H H'):oq H' v m:=by
 cases h with
 |no=>exact .no
 |yes r xs h hx hl=>exact .yes r xs (h.kp g) hx hl
noncomputable def wz (aP:By):Option (List Int)->By
 |none=>aP
 |some xs=>dC xs
structure eK (H:HP)(si di bi:Nat)(D:By->Option By)(bl:List (Nat×List Op))(aU aW:Int):Prop where
 st:H[si]? =some (bF di bi aU aW)
 dd:∃so,H[di]? =some so/\dy so D
 bb:H[bi]? =some (.list (bl.map λp=> .ref p.1))
 at_:∀p∈bl,H[p.1]? =some (.list (p.2.map Op.sv))/\∀o∈p.2,o.key∈U5
theorem u4 (ops:List Op):nx (.list (ops.map Op.sv)):=λv hv=>by
 refine aZ (gH hv) λo u8 dc=> ?_;subst dc
 cases o<;>exact True.intro
theorem sO (h:dy so D):¬nx so:=by
 obtain ⟨es,h|⟨h,_⟩,_⟩:=h.ex<;>(subst h;exact id)
theorem zB {bl:List (Nat×List Op)}(h:bl≠ []):¬nx (.list (bl.map λp=> .ref p.1)):=λp=>by
 cases bl with
 |nil=>exact h rfl
 |cons x r=>exact p _ (.head _)
theorem xP {mi si di bi:Nat}{a t d aU aW:Int}(hm:H[mi]? =some (aX si a t c d s))(h:eK H si di bi D bl aU aW)(lG:bl≠ [])(k:Kx [mi,si,di,bi] H H'):Kp H H' :=λi o e p=>by
 refine aZ h.dd λso h1 h2=> ?_
 have ne:∀{j:Nat} {x:SO},H[j]? =some x->¬nx x->i≠j:=λhj n=>cW e hj λq=>n (q▸p)
 exact k i o (List.not_mem_cons_of_ne_of_not_mem (ne hm λz=>z.1 rfl) (we (ne h.st λz=>z.2 rfl) (ne h1 (sO h2)) (ne h.bb (zB lG)))) e
structure oa (a:AS):Prop where
 aP:a.aP.length<100
 S:∀w,zZ (a.S w)
 now:∀k b,a.now k=some b->b.length<=90
 i0:0<=a.idx
 i1:a.idx<1000
section
variable {H:HP}{si di bi mi e:Nat}{aU aW aO:Int}{sync:Bool}{a:AS}{bl:List (Nat×List Op)}{t k:Int}{data:By}{wh:rA}{cf:SV}{cm:Option (List Int)}
theorem A9 {n:Int}:bU .ne (.int n) (.int n) H=some false:=(k9 _ _ _).trans (by rw [bf rfl];rfl)
theorem AD (hm:H[mi]? =some (aX si a.idx a.term a.aP aO sync))(he:H[e]? =some (kZ t (a.idx+1) k data))(hc:oq H cf cm)(d:Nat){C:Prop}
  (K:∀H1,Gr H H1->(∀o:cQ,aK P (run P (d+5)) (bx 3 HN) [some (.ref mi),some (.ref e),some cf,some (.bytes (wz a.aP cm)),none,none,none] H1=o->aK P (run P (d+5)) HN [some (.ref mi),some (.ref e),some cf,none,none,none,none] H=o)->C):C:=by
 cases hc with
 |no=>exact K H Gr.refl λo h=>ae (cD (an (aF rfl he rfl) (aJ (aF rfl hm rfl) rfl rfl) A9) aj) (ae (bJ (aF rfl hm rfl)) (ae (cD (an rfl rfl rfl) aj) h))
 |yes r xs hr hx hl=>
  refine aZ (oQ hr hx (dR hl (by decide)) d) λH1 e1 g1=> ?_
  exact K H1 g1 λo h=>ae (cD (an (aF rfl he rfl) (aJ (aF rfl hm rfl) rfl rfl) A9) aj) (ae (bJ (aF rfl hm rfl)) (ae (eZ (an rfl rfl rfl) (ae (bJ (cz (aa rfl af) e1)) aj)) h))
theorem DA (hm:H[mi]? =some (aX si a.idx a.term a.aP aO sync))(cI:eK H si di bi (fW a) bl aU aW)(he:H[e]? =some (kZ t (a.idx+1) k data))(hw:f9 k data wh)(ha:oa a)(d:Nat){C:Prop}
  (K:∀H1 cmd,Wb H ((jA a wh).map Op.sv) H1->(∀o:cQ,aK P (run P (d+6)) (bx 7 HN) [some (.ref mi),some (.ref e),some cf,some (.bytes cb),some (.ref H.length),some (ob (mA a wh)),some cmd] H1=o->aK P (run P (d+6)) (bx 3 HN) [some (.ref mi),some (.ref e),some cf,some (.bytes cb),none,none,none] H=o)->C):C:=by
 refine aZ (Ac (d+5) [some (.ref mi),some (.ref e),some cf,some (.bytes cb),none,none,none] H) λH1 e1 w1=> ?_
 have g1:=w1.gr
 have Gw:=g1.at hm
 have M0:=g1.at he
 have go:∀{v:SV} {H2:HP} {o:cQ},run P (d+6) 75 [.ref mi, .ref e] H1= .ok v H2->aK P (run P (d+6)) (bx 6 HN) [some (.ref mi),some (.ref e),some cf,some (.bytes cb),some (.ref H.length),some .none,some v] H2=o->aK P (run P (d+6)) (bx 3 HN) [some (.ref mi),some (.ref e),some cf,some (.bytes cb),none,none,none] H=o:=λe2 h=>
  ae (bJ e1) (ae (bJ rfl) (ae (bJ (aw (q:= .fn 75) (v:= .ref mi) rfl (bN Gw) (aa rfl af) e2)) h))
 cases hw with
 |idle h=>exact K H1 .none w1 λo h2=>go (rh M0 h (d+5)) (ae (cD (an rfl rfl rfl) aj) h2)
 |more h c ok x ex=>
  subst ex
  refine aZ (Ei ok x d H1) λH2 e2 g2=> ?_
  exact K H2 .none (w1.more g2) λo h2=>go (lZ M0 h (vW c [x]) e2) (ae (cD (an rfl rfl rfl) aj) h2)
 |Bb h c ok h6 ex=>
  subst ex
  refine aZ (Gg ok h6 d H1) λH2 e2 g2=> ?_
  exact K H2 .none (w1.more g2) λo h2=>go (lZ M0 h (by have:=vW c [];rwa [ch] at this) e2) (ae (cD (an rfl rfl rfl) aj) h2)
 |cmd h c w ok h6 ex DH hk hv=>
  subst ex
  refine j8 (yv (mi:=mi) M0 h ok h6 d) λH2 kk e2 g2 h2=> ?_
  refine aZ cI.dd λso d1 d2=> ?_
  have hp:=BO a c hk
  refine yN (w:=w) (S:=a.S w) hm cI.st d1 d2 (w1.more g2) h2 ok DH (by rcases hk with q|q<;>rw [q]<;>decide) (λb hb=>by
   have:=ha.now _ _ (hp▸hb)
   lia) (js a w) (ha.S w) d λH3 e3 w3=> ?_
  rw [hp] at e3 w3
  rw [D5] at w3
  exact K H3 (.ref kk) w3 λo h=>go e2 (ae (eZ (an rfl rfl rfl) (ae (bJ (aw (q:= .fn 76) (v:= .ref mi) rfl (bN (g2.at Gw)) (aa rfl (aa rfl af)) e3)) aj)) h)
noncomputable def mz (a:AS)(t:Int)(cb:By)(wh:rA):List Op:=Ap (jA a wh) (a.idx+1) t cb
theorem eK.gr (h:eK H si di bi D bl aU aW)(g:Gr H H'):eK H' si di bi D bl aU aW:=
 ⟨g.at h.st,h.dd.imp λu8 z=>⟨g.at z.1,z.2⟩,g.at h.bb,λp hp=>⟨g.at (h.at_ p hp).1,(h.at_ p hp).2⟩⟩
theorem xz (h:xs.length<50):(dC xs).length<100:=by
 unfold dC jg
 rw [aL,dq]
 show _+4<100
 lia
theorem oq.len (h:oq H cf cm)(hc:c.length<100):(wz c cm).length<100:=by
 cases h with
 |no=>exact hc
 |yes r xs h hx hl=>exact xz hl
theorem MD (hm:H[mi]? =some (aX si a.idx a.term a.aP aO sync))(cI:eK H si di bi (fW a) bl aU aW)(lG:bl≠ [])(xW:bl.length<1000)(he:H[e]? =some (kZ t (a.idx+1) k data))(hw:f9 k data wh)(hc:oq H cf cm)(ha:oa a)(t0:0<=t)(t1:t<1000)(d:Nat){C:Prop}
  (K:∀H' r,run P (d+7) 74 [.ref mi, .ref e,cf] H= .ok (ob (mA a wh)) H'->H'[mi]? =some (aX si (a.idx+1) t (wz a.aP cm) (bif sync then a.idx+1 else aO) sync)->
   eK H' si di bi (fW (Ge a (a.idx+1) t (wz a.aP cm) wh)) (bl++ [(r,mz a t (wz a.aP cm) wh)]) (bif sync then ((bl.length+1:Nat):Int) else aU) (aW+(mz a t (wz a.aP cm) wh).length)->Kp H H'->C):C:=by
 have DH:=hc.len ha.aP
 refine AD hm he hc (d+1) λH1 g1 f1=>DA (cf:=cf) (cb:=wz a.aP cm) (g1.at hm) (cI.gr g1) (g1.at he) hw ha d λH2 cmd w2 f2=> ?_
 generalize wz a.aP cm=cb at*
 have Oh:=cI.gr g1
 refine aZ Oh.dd λso d1 d2=> ?_
 have i0:=ha.i0
 have i1:=ha.i1
 have hl:=CW a wh
 refine zx (dh:=ob (mA a wh)) (cmd:=cmd) (cf:=cf) (cb:=cb) (g1.at hm) Oh.st d1 d2 Oh.bb (g1.at he) w2 (sR a hw) (by exact lC ‹_› rfl) (by rw [bI];exact xW) (by lia) (by lia) t0 (by exact iB ‹_› rfl) DH (d+1) λH3 W2 r e3 m3 s3 q3 D3 b3 r3 kx=> ?_
 have kp:=xP (g1.at hm) Oh lG kx
 rw [show ((jA a wh).length:Int)+1=(mz a t cb wh).length from congrArg Int.ofNat (aL (as:=jA a wh) (bs:= [Op.put [97] (fz (a.idx+1) t cb)])).symm,bI] at s3
 exact K H3 r (aE rfl rfl (f1 _ (f2 _ e3))) m3 ⟨s3,⟨W2,q3,A3 a (a.idx+1) t cb hw▸D3⟩,by rw [eG];exact b3,λp hp=>(gf hp).elim (λhp=>⟨kp _ _ (Oh.at_ p hp).1 (u4 _),(cI.at_ p hp).2⟩) λq=>eF q▸⟨r3,mL (sR a hw)⟩⟩ (g1.kp.trans kp)
end
theorem Y7:(H++a::b::c::G)[H.length+2]? =some c:=by rw [eJ (gR _ 2),Nat.add_sub_cancel_left];rfl
theorem vi (d:Nat)(l:cR)(H:HP):bj P (run P (d+1)) (.callC 16 .nil) l H= .ok (.ref H.length) (H++ [bF (H.length+1) (H.length+2) 0 0, .aM, .list []]):=by
 have h1:bD P (.ref H.length) 40 (.ref (H++ [SO.inst 16 []]).length) ((H++ [SO.inst 16 []])++ [SO.aM])=some (H++SO.inst 16 [(40, .ref (H.length+1))]:: [SO.aM]):=by
  rw [nf,aL,tA rfl (by decide)]
  rfl
 have h2:bD P (.ref H.length) 6 (.ref (H++SO.inst 16 [(40, .ref (H.length+1))]:: [SO.aM]).length) ((H++SO.inst 16 [(40, .ref (H.length+1))]:: [SO.aM])++ [SO.list []])=some (H++SO.inst 16 [(40, .ref (H.length+1)),(6, .ref (H.length+2))]:: [SO.aM, .list []]):=by
  rw [nf,aL,tA rfl (by exact (show 1<100 by decide))]
  rfl
 exact lF af rfl (bW rfl rfl (ae (bV rfl rfl h1) (ae (bV (bG af) rfl h2) (ae (bV rfl rfl (zO (fs' := [(40, .ref (H.length+1)),(6, .ref (H.length+2)),(30, .int 0)]) rfl (show 2<100 by decide) rfl)) (ae (bV rfl rfl (zO rfl (show 3<100 by decide) rfl)) aj)))))
theorem xl {si:Nat}(d:Nat)(H:HP):run P (d+1) 69 [.ref H.length, .ref si] (H++ [.inst 15 []])= .ok .none (H++ [aX si 0 0 [] 0 false]):=
 bW rfl rfl (ae (bV rfl rfl (ja (fs' := [(57, .ref si)]) rfl (show 0<100 by decide) rfl)) (ae (bV rfl rfl (ja (fs' := [(57, .ref si),(2, .int 0)]) rfl (show 1<100 by decide) rfl))
  (ae (bV rfl rfl (ja (fs' := [(57, .ref si),(2, .int 0),(62, .int 0)]) rfl (show 2<100 by decide) rfl)) (ae (bV rfl rfl (ja (fs' := [(57, .ref si),(2, .int 0),(62, .int 0),(11, .bytes [])]) rfl (show 3<100 by decide) rfl))
  (ae (bV rfl rfl (ja (fs' := [(57, .ref si),(2, .int 0),(62, .int 0),(11, .bytes []),(20, .int 0)]) rfl (show 4<100 by decide) rfl)) (ae (bV rfl rfl (ja rfl (show 5<100 by decide) rfl)) aj))))))
theorem w9:dP U .aM (λu8=>none):=⟨[], .inr ⟨rfl,rfl⟩,λu8=>rfl, .nil,λu8 h=>j1 h⟩
theorem pE (H G:HP):eK (H++bF (H.length+1) (H.length+2) 0 0:: .aM:: .list []::G) H.length (H.length+1) (H.length+2) (λu8=>none) [] 0 0:=
 ⟨nQ,⟨_,rX,w9⟩,Y7,λu8 h=>j1 h⟩
theorem Nb {R:au}(h:dK P R es l H= .ok vs H1)(h2:dI vs=true):bj P R (.AH es) l H= .ok .text H1:=by
 show (dK P R es l H).bind _=_
 rw [h]
 exact if_pos h2
section
variable {H:HP}{si di bi mi r:Nat}{aU aW aO applied term:Int}{aP:By}{sync:Bool}{bl:List (Nat×List Op)}{xs:List Int}{D:By->Option By}
noncomputable def QX (cb:By):AS:=⟨λu8=>none,λu8=>none,1,1,cb⟩
theorem Bh (cb:By):eT [Op.put [97] (fz 1 1 cb)] (λu8=>none)=fW (QX cb):=by
 funext k
 show (if k= [97] then some (fz 1 1 cb) else none)=_
 unfold fW QX
 dsimp only
 split
 ·rfl
 ·split
  ·rfl
  split
  ·rfl
  split
  ·rfl
  split<;>rfl
theorem My (hm:H[mi]? =some (aX si applied term aP aO sync))(cI:eK H si di bi (λu8=>none) [] 0 0)(hc:d0 H r xs)(hx:∀x∈xs,0<=x/\x<128)(hl:xs.length<50)(d:Nat){C:Prop}
  (K:∀H' q,run P (d+6) 73 [.ref mi, .int 1, .int 1, .ref r] H= .ok .none H'->H'[mi]? =some (aX si 1 1 (dC xs) 1 sync)->eK H' si di bi (fW (QX (dC xs))) [(q, [Op.put [97] (fz 1 1 (dC xs))])] 1 1->Kx [mi,si,di,bi] H H'->C):C:=by
 refine aZ cI.dd λso d1 d2=> ?_
 have e0:=xa (k:= [97]) cI.st d1 d2 (d+4)
 refine aZ (Ac (d+4) [some (.ref mi),some (.int 1),some (.int 1),some (.ref r),none,none] H) λH1 e1 w1=> ?_
 refine aZ (oQ (hc.gr w1.gr) hx (dR hl (by decide)) d) λH2 e2 g2=> ?_
 have Io:=g2.at (w1.gr.at hm)
 refine aZ (pt (index:=1) (term:=1) (aP:=dC xs) hm (w1.more g2) (by decide) (by decide) (by decide) (by decide) (by decide) (xz hl) (d+1)) λH3 e3 w3=> ?_
 have g3:=w3.gr
 refine Gc (ops:= [Op.put [97] (fz 1 1 (dC xs))]) (sync:=true) w3 (λz=>W7 z) (mL (ops:= []) λu8 z=>j1 z) (g3.at cI.st) (g3.at d1) d2 (g3.at cI.bb) (by decide) (d+3) λH4 X8 e4 q1 q2 q3 q4 q5 q6=> ?_
 rw [Bh] at q3
 have PV:mi∉ [si,di,bi]:=we (cW hm cI.st (fH rfl)) (cW hm d1 (Ne.symm (en d2))) (cW hm cI.bb (fH rfl))
 have n1:si≠mi:=Ne.symm (List.ne_of_not_mem_cons PV)
 have n3:bi≠mi:=cW cI.bb hm (fH rfl)
 have OA:=q6 mi _ PV (g3.at hm)
 have off:∀{o:SO} {j:Nat} {x:SO},j≠mi->H4[j]? =some x->(H4.set mi o)[j]? =some x:=λhj hx=>bQ hj hx
 have f3:(H4.set mi (aX si 1 1 (dC xs) aO sync))[mi]? =some (aX si 1 1 (dC xs) aO sync):=eA OA
 have f4:=pk (d:=d+3) f3 (off n1 q1) (off n3 q4) rfl
 rw [List.set_set] at f4
 have n5:H3.length≠mi:=Nat.ne_of_gt (Nat.lt_of_lt_of_le (gw hm).1 g3.le)
 exact K _ H3.length (bW rfl rfl (ae (cD (an (aw (R:=run P (d+5)) (q:= .fn 90) (v:= .ref si) (aF rfl hm rfl) (bN cI.st) (aa rfl af) e0) rfl rfl) aj) (ae (bJ e1) (ae (bJ (cz (aa rfl af) e2))
  (ae (bX (aw (q:= .fn 72) (v:= .ref mi) rfl (bN Io) (aa rfl (aa rfl (aa rfl (aa rfl af)))) e3)) (ae (Kw (aw (q:= .fn 86) (v:= .ref si) (aF rfl (g3.at hm) rfl) (bN (g3.at cI.st)) (aa rfl (aa rfl af)) e4))
  (ae (bV rfl rfl (DP OA rfl rfl)) (ae (bV rfl rfl (zD OA rfl rfl)) (ae (bV rfl rfl (zD OA rfl rfl))
  (ae (bX (aw (q:= .fn 71) (v:= .ref mi) rfl (bN f3) af f4)) aj)))))))))) (eA OA) ⟨off n1 q1,⟨X8,off (cW d1 hm (en d2)) q2,q3⟩,off n3 q4,λp hp=>eF hp▸⟨off n5 q5,mL (ops:= []) λu8 z=>j1 z⟩⟩ (zg g3 q6)
theorem IJ {x y z:SV}(hm:H[mi]? =some (aX si applied term aP aO sync))(cI:eK H si di bi (fW a) bl aU aW)(d:Nat):run P (d+2) 73 [.ref mi,x,y,z] H= .exc 8 H:=by
 refine aZ cI.dd λso d1 d2=> ?_
 have e0:=xa (k:= [97]) cI.st d1 d2 d
 have:fW a [97]=some (fz a.idx a.term a.aP):=if_pos rfl
 rw [this] at e0
 exact lh rfl rfl rfl (gY (eZ (an (aw (R:=run P (d+1)) (q:= .fn 90) (v:= .ref si) (aF rfl hm rfl) (bN cI.st) (aa rfl af) e0) rfl rfl) (gY (qC rfl))))
theorem Jh {e:Nat}{t i k:Int}{cf:SV}(hm:H[mi]? =some (aX si applied term aP aO sync))(he:H[e]? =some (kZ t i k data))(hi:i≠applied+1)(i0:0<=i)(i1:i<1000)(a0:0<=applied)(a1:applied<1000)(d:Nat):run P (d+1) 74 [.ref mi, .ref e,cf] H= .exc 8 H:=by
 have nV:dI [.int i, .int applied]=true:=by
  show (decide (0<=i)&&decide (i<100000)&&(decide (0<=applied)&&decide (applied<100000)&&true))=true
  rw [bf i0,bf a0,bf (by exact iB ‹_› rfl),bf (by exact iB ‹_› rfl)];rfl
 refine lh rfl rfl rfl (gY (eZ (an (aF rfl he rfl) (aJ (aF rfl hm rfl) rfl rfl) ((k9 _ _ _).trans (by rw [aQ hi];rfl))) (gY (qC (Nb (aa (aF rfl he rfl) (aa (aF rfl hm rfl) af)) nV)))))
end
noncomputable def Ko (n:Nat)(H H' :HP):Prop:=∀(j:Nat) (o:SO),j≠n->H[j]? =some o->H'[j]? =some o
theorem Ko.trans {n:Nat}{H H1 H2:HP}(a:Ko n H H1)(b:Ko n H1 H2):Ko n H H2:=λj o h e=>b j o h (a j o h e)
theorem Gr.ko {n:Nat}(a:Gr H H1):Ko n H H1:=λu8 u8 u8 e=>a.at e
theorem L3 {n:Nat}:Ko n H (H.set n o):=λj o' h e=>(eN (Ne.symm h)).trans e
theorem FU {n i:Nat}(h:bD P (.ref n) i v H=some H'):Ko n H H' :=by
 unfold bD at h
 dsimp only at h
 split at h
 ·split at h
  ·cases h;exact L3
  ·exact nh h
 ·exact nh h
section
variable {H0 H:HP}{pre aI:By}{d:Nat}
theorem q8 {n:Int}(h:Cu H0 pre (n::aI) H)(q:n<128):∃H',run P (d+1) 15 [.ref H0.length] H= .ok (.int n) H' /\Cu H0 (pre++ [n]) aI H' /\Ko H0.length H H' :=by
 have e0:=nE (R:=run P d) (l:= [some (.ref H0.length),none,none]) (i:=0) h rfl
 have e1:=hF (R:=run P d) (l:= [some (.ref H0.length),some (.int pre.length),none]) (i:=0) h rfl
 refine aZ (pK (n:=(pre.length:Int)+1) h (p:=pre++ [n]) (r:=aI) mJ mI) λH' e2 s=> ?_
 have e3:=hF (R:=run P d) (l:= [some (.ref H0.length),some (.int pre.length),none]) (i:=0) s rfl
 rw [<-mJ] at e3
 exact ⟨H',aE rfl rfl (ae (bJ e0) (aY (eZ (cM (dM (an rfl (bu (aa e1 af) rfl) Cn) (dM (an (aN e1 rfl i8) rfl (gv (bf q))) fN))) (ae (bV (aJ rfl rfl rfl) rfl e2) (aY (bK (aN e3 rfl i8))))))),s,FU e2⟩
theorem xe {n:Int}(h:Cu H0 pre (n::aI) H)(q:n<128)(hr:n<=aI.length):∃H',run P (d+2) 44 [.ref H0.length] H= .ok (.int n) H' /\Cu H0 (pre++ [n]) aI H' /\Ko H0.length H H' :=by
 refine mq (q8 (d:=d) h q) λH1 e1 s1 k1=> ?_
 exact ⟨H1,aE rfl rfl (ae (bJ (aw rfl (eU h 64) af e1)) (ae (cD (an rfl (aw (R:=run P (d+1)) rfl (eU s1 36) af (AW (d:=d) s1)) (jG (aQ (Int.not_lt.mpr hr)))) aj) (aY (bK rfl)))),s1,k1⟩
noncomputable def P3:cA:= .cons (.j3 (.name 3) (.ez (.loc 0) 64 .nil)) (.cons (.ifs (.and (.cons (.loc 1) (.cons (.cmp .le (.loc 3) (.sub (.loc 1) (.neg (.int 1)))) .nil))) (.cons .bad .nil) .nil) (.cons (.expr (.ez (.loc 1) 1 (.cons (.loc 3) .nil))) .nil))
theorem Bk (xs:List Int)(x:Int):iL (xs++ [x])=iL xs++ [.int x]:=by unfold iL;rw [eG];rfl
theorem PZ {n a:Int}(h:decide (n<=a)=q):bU .le (.int n) (.int a) H=some q:=congrArg some h
noncomputable def B3 (n k:Nat)(f:Nat->Option SV):cR:= [some (.ref n),some (.ref k),f 2,f 3]
noncomputable def Qg (z:Option SV)(y:SV):Nat->Option SV
 |2=>z
 |_=>some y
noncomputable def VK (n k:Nat)(H H' :HP):Prop:=∀(j:Nat) (o:SO),j≠n->j≠k->H[j]? =some o->H'[j]? =some o
theorem L1:(iL xs).length=xs.length:=bI _
theorem C6 {x:Int}{k n:Nat}{R:au}(rM:H1[k]? =some (.list (iL done)))(hx:∀y∈done,y<x):pg P R (.cons (.loc 1) (.cons (.cmp .le (.loc 3) (.sub (.loc 1) (.neg (.int 1)))) .nil)) (al (B3 n k f) 3 (.int x)) H1= .ok false H1:=by
 rcases List.eq_nil_or_concat done with z|⟨ys,y,z⟩
 ·rw [z] at rM
  exact iz (AV rfl rM)
 ·rw [List.concat_eq_append] at z
  have Um:=hx y (z▸List.mem_append_right _ (.head _))
  rw [z,Bk] at rM
  refine dM (q:=false) (H1:=H1) ((AV rfl rM).trans ?_) (iz (an rfl (aN rfl rfl (el rM)) (PZ (aQ (Int.not_le.mpr Um)))))
  cases iL ys<;>rfl
theorem C5 (h:Cu H0 pre aI H){k:Nat}(hk:H0.length<k):Cu H0 pre aI (H.set k o):=by
 obtain ⟨G,rfl⟩:=h
 obtain ⟨j,rfl⟩:∃j,k=H0.length+(j+1):=⟨k - H0.length - 1,by lia⟩
 refine ⟨G.set j o, ?_⟩
 rw [List.set_append_right _ _ (gR _ _),Nat.add_sub_cancel_left]
 rfl
theorem Iu {k:Nat}{x:Int}(f:Nat->Option SV)(h:Cu H0 pre (x::aI) H)(hk:H[k]? =some (.list (iL done)))(Kq:H0.length<k)(q:x<128)(hx:∀y∈done,y<x)(hl:done.length<100){C:Prop}
  (K:∀H',aK P (run P (d+1)) P3 (B3 H0.length k f) H= .next (B3 H0.length k (Qg (f 2) (.int x))) H'->Cu H0 (pre++ [x]) aI H'->H'[k]? =some (.list (iL (done++ [x])))->VK H0.length k H H'->C):C:=by
 refine mq (q8 (d:=d) h q) λH1 e1 s1 k1=> ?_
 have rM:=k1 _ _ (Nat.ne_of_gt Kq) hk
 have e2:=jO (R:=run P (d+1)) (v:= .int x) rM (by rw [L1];exact dR hl (by decide))
 rw [<-Bk] at e2
 exact K (H1.set k (.list (iL (done++ [x])))) (ae (bJ (aw rfl (eU h 64) af e1)) (ae (cD (cM (C6 rM hx)) aj) (ae (bX (aw rfl (bN rM) (aa rfl af) e2)) aj))) (C5 s1 Kq) (eA rM) λj o h1 h2 e=>(eN (Ne.symm h2)).trans (k1 j o h1 e)
theorem pA {n k:Nat}{H:HP}(h:k<n):ct (.range 0 n) k H=some (some (.int (0+(k:Int)))):=congrArg some (if_pos (by lia))
theorem qu {n:Nat}:ct (.range 0 n) n H=some none:=congrArg some (if_neg (by lia))
theorem Fy {k:Nat}(Kq:H0.length<k)(aI:By){C:Prop}(cU:List Int):∀(done:List Int) (pre:By) (H:HP) (f:Nat->Option SV),(done++cU).Pairwise (·< ·)->(∀x∈cU,x<128)->(done++cU).length<50->Cu H0 pre (cU++aI) H->H[k]? =some (.list (iL done))->
  (∀H' f',forLoop [2] (λl H=>aK P (run P (d+1)) P3 l H) (.range 0 (done++cU).length) (cU.length+1) done.length (B3 H0.length k f) H= .next (B3 H0.length k f') H'->Cu H0 (pre++cU) aI H'->H'[k]? =some (.list (iL (done++cU)))->VK H0.length k H H'->C)->C:=by
 induction cU with
 |nil=>
  intro done pre H f hp hq hl s hk K
  rw [ch,ch] at K
  exact K H f (jr qu) s hk λu8 u8 u8 u8 e=>e
 |cons x t ih=>
  intro done pre H f hp hq hl s hk K
  have lO:done.length<(done++x::t).length:=by rw [aL];exact Nat.lt_add_of_pos_right (Nat.succ_pos _)
  have hd:done++x::t=(done++ [x])++t:=(bZ done [x] t).symm
  refine Iu (d:=d) (fr (al (B3 H0.length k f) 2 (.int (0+(done.length:Int))))) s hk Kq (hq x (.head _)) (λw hw=>(List.pairwise_append.mp hp).2.2 w hw x (.head _)) (dR lO (dR hl (by decide))) λH1 e1 s1 h1 k1=> ?_
  have hit:=pA (H:=H) lO
  rw [hd] at hp hl hit K
  refine ih (done++ [x]) (pre++ [x]) H1 (Qg (some (.int (0+(done.length:Int)))) (.int x)) hp (λy hy=>hq y (.tail _ hy)) hl s1 h1 λH2 f2 c1 c3 c4 c5=> ?_
  rw [aL (as:=done)] at c1
  rw [bZ] at c3
  exact K H2 f2 (fA hit rfl e1 c1) c3 c4 λj o a b c=>c5 j o a b (k1 j o a b c)
theorem kX {n:Nat}(h:n<=4096):Mine.bH Bi.range [.int n] H= .ok (.range 0 n) H:=if_pos ⟨by exact iE ‹_› rfl,fD _⟩
theorem mK {xs:List Int}(h:Cu H0 pre (jg xs++aI) H)(hp:xs.Pairwise (·< ·))(hq:∀x∈xs,x<128)(hl:xs.length<50)(d:Nat){C:Prop}
  (K:∀H' k,run P (d+3) 54 [.ref H0.length] H= .ok (.ref k) H'->Cu H0 (pre++jg xs) aI H'->H'[k]? =some (.list (iL xs))->H0.length<k->Ko H0.length H H'->C):C:=by
 have h1:Cu H0 pre ((xs.length:Int)::(xs++aI)) (H++ [SO.list []]):=by
  obtain ⟨G,rfl⟩:=h
  exact ⟨G++ [SO.list []],nf⟩
 have Kq:H0.length<H.length:=by
  obtain ⟨G,rfl⟩:=h
  rw [aL,dq]
  exact Nat.lt_add_of_pos_right (Nat.succ_pos _)
 obtain ⟨H1,e1,s1,k1⟩:=xe (d:=d) h1 (by exact iF ‹_› rfl) (by rw [aL];lia)
 have hN:fa (.range 0 (xs.length:Int)) H1=xs.length:=congrArg Int.toNat (Int.sub_zero (xs.length:Int))
 refine Fy (d:=d+1) Kq aI xs [] (pre++ [(xs.length:Int)]) H1 (λu8=>none) hp hq hl s1 (k1 _ _ (Nat.ne_of_gt Kq) (dU ..)) λH2 f2 c1 c3 c4 c5=> ?_
 rw [bZ] at c3
 exact K H2 H.length (aE rfl rfl (ae (bJ (bG af)) (ae (f_ (v:= .range 0 xs.length) (bu (aa (cz (aa rfl af) e1) af) (kX (by exact lD ‹_› rfl))) (by rw [hN];exact c1)) (aY (bK rfl))))) c3 c4 Kq λj o hj e=>c5 j o hj (cV (gw e).1) (k1 j o hj (Gr.at (H:=H) ⟨_,rfl⟩ e))
theorem E0 (h:Cu H0 pre [0] H)(d:Nat){C:Prop}(K:∀H',run P (d+3) 20 [.ref H0.length] H= .ok (.bool false) H'->Cu H0 (pre++ [0]) [] H'->Ko H0.length H H'->C):C:=by
 have e0:=nE (R:=run P (d+2)) (l:= [some (.ref H0.length),none]) (i:=0) h rfl
 have e1:=hF (R:=run P (d+2)) (l:= [some (.ref H0.length),none]) (i:=0) h rfl
 refine aZ (pK (n:=(pre.length:Int)+1) h (p:=pre++ [0]) (r:= []) mJ mI) λH' e2 s=> ?_
 have e4:eC (.ref H0.length) 4 H= .ok (.int pre.length) H:=by
  obtain ⟨G,rfl⟩:=h
  unfold eC
  dsimp only
  rw [nQ];rfl
 exact K H' (aE rfl rfl (ae (cD (an e0 (bu (aa e1 af) rfl) Gp) aj) (ae (bJ (aN e1 e0 i8)) (ae (cD (an rfl rfl (jG rfl)) aj) (ae (AI rfl e4 rfl rfl e2) (aY (bK (fU rfl rfl rfl)))))))) s (FU e2)
end
theorem wc (hp:xs.Pairwise (·< ·))(hx:∀x∈xs,x<128)(hl:xs.length<50)(d:Nat)(H:HP):∃H' k,run P (d+4) 56 [.bytes (dC xs)] H= .ok (.ref k) H' /\Gr H H' /\d0 H' k xs:=by
 refine aZ (wb (d:=d+2) (b:=dC xs) (run P (d+3)) [some (.bytes (dC xs)),none,none,none,none,none,none] 0 rfl H) λH1 e1 s1=> ?_
 have n0:∀x∈([]:List Int),x<128:=λx z=>j1 z
 refine WM λC K=>mK s1 hp hx hl d λH2 k2 e2 s2 h2 b2 o2=>mK (xs:= []) (aI:= [0,0,0]) s2 .nil n0 (by decide) d λH3 k3 e3 s3 h3 b3 o3=>mK (xs:= []) (aI:= [0,0]) s3 .nil n0 (by decide) d λH4 k4 e4 s4 h4 b4 o4=>mK (xs:= []) (aI:= [0]) s4 .nil n0 (by decide) d λH5 k5 e5 s5 h5 b5 o5=>E0 s5 d λH6 e6 s6 o6=> ?_
 have m:∀{j n:Nat} {vs:List SV} {A B:HP},Ko n A B->n<j->A[j]? =some (.list vs)->B[j]? =some (.list vs):=λo a b=>o _ _ (Nat.ne_of_gt a) b
 refine mq (yG (m o6 b2 (m o5 b2 (m o4 b2 (m o3 b2 h2)))) (m o6 b3 (m o5 b3 (m o4 b3 h3))) (m o6 b4 (m o5 b4 h4)) (m o6 b5 h5) hp (dR hl (by decide)) (d+1)) λH7 e7 g7 c7=> ?_
 exact K ⟨H7,H6.length,aE rfl rfl (ae (bJ e1) (ae (bJ (cz (aa rfl af) e2)) (ae (bJ (cz (aa rfl af) e3)) (ae (bJ (cz (aa rfl af) e4)) (ae (bJ (cz (aa rfl af) e5))
  (ae (bJ (aw rfl (eU s5 26) af e6)) (ae (bX (aw rfl (eU s6 19) af (pC (d:=d+2) s6))) (aY (bK (lF (aa rfl (aa rfl (aa rfl (aa rfl (aa rfl af))))) rfl e7)))))))))),s6.gr.trans g7,c7⟩
theorem fZ {r:Nat}(h:H[r]? =some (.list vs)):Mine.bH Bi.tuple [.ref r] H= .ok (.tuple vs) H:=by
 show (match H[r]? with
   |some (.list vs)=>du.ok (SV.tuple vs) H
   |_=> .bad)=_
 rw [h]
theorem C7 {k:Nat}(h:d0 H k xs)(d:Nat):run P (d+1) 51 [.ref k] H= .ok (.tuple [.tuple (iL xs), .tuple [], .tuple [], .tuple [], .bool false]) H:=by
 refine BL h.ex λv a b c h1 h2 h3 h4 h5=> ?_
 exact aE rfl rfl (aY (bK (db (aa (bu (aa (aF rfl h1 rfl) af) (fZ h2)) (aa (bu (aa (aF rfl h1 rfl) af) (fZ h3)) (aa (bu (aa (aF rfl h1 rfl) af) (fZ h4)) (aa (bu (aa (aF rfl h1 rfl) af) (fZ h5)) (aa (aF rfl h1 rfl) af))))))))
section
variable {H:HP}{si di bi mi:Nat}{aU aW:Int}{sync:Bool}{bl:List (Nat×List Op)}{a:AS}{D:By->Option By}
theorem FN {x y:Int}{z:Int}(h:(if y<x then y else x)=z):Mine.bH Bi.min [.int x, .int y] H= .ok (.int z) H:=by
 show du.ok (SV.int (if y<x then y else x)) H=_
 rw [h]
theorem vf {i t:Int}(hm:H[mi]? =some (aX si 0 0 [] 0 sync))(hs:H[si]? =some (bF di bi aU aW))(hb:H[bi]? =some (.list (bl.map λp=>SV.ref p.1)))(hk:aU=bl.length)(hi:0<=i)(x1 x5:Option SV)(d:Nat){C:Prop}
  (K:∀H',aK P (run P (d+2)) (bx 4 UV) [some (.ref mi),x1,some (.int i),some (.int t),some (.bytes cb),x5,some cv] H= .ret (.tuple [.int i, .int t,cv]) H'->H'[mi]? =some (aX si i t cb i sync)->Kx [mi] H H'->C):C:=by
 have f:∀{o:SO},(H.set mi o)[mi]? =some o:=eA hm
 have n1:si≠mi:=cW hs hm (fH rfl)
 have n3:bi≠mi:=cW hb hm (fH rfl)
 have f5:=pk (d:=d) (f (o:=aX si i t cb 0 sync)) (bQ n1 hs) (bQ n3 hb) (by rw [bI];exact hk)
 rw [List.set_set] at f5
 exact K _ (ae (bV rfl rfl (DP hm rfl rfl)) (ae (bV rfl rfl (zD hm rfl rfl)) (ae (bV rfl rfl (zD hm rfl rfl))
  (ae (bV (bu (aa (aF rfl (f (o:=aX si i t cb 0 sync)) rfl) (aa rfl af)) (FN (if_neg (Int.not_lt.mpr hi)))) rfl (zD hm rfl rfl)) (ae (bX (aw (q:= .fn 71) (v:= .ref mi) rfl (bN (f (o:=aX si i t cb 0 sync))) af f5)) (aY (bK (db (aa rfl (aa rfl (aa rfl af))))))))))) f (pJ (.head _))
theorem ne_bytes:bU .ne (.bytes x) (.bytes y) H=some (!decide (x=y)):=by
 show some (!(x==y))=_
 by_cases h:x=y
 ·subst h
  rw [iu,bf rfl]
 ·rw [eX h,aQ h]
theorem LM (hm:H[mi]? =some (aX si 0 0 [] 0 sync))(cI:eK H si di bi (λu8=>none) [] 0 aW)(d:Nat){C:Prop}(K:∀H',run P (d+3) 70 [.ref mi] H= .ok (.tuple [.int 0, .int 0, .none]) H'->H'[mi]? =some (aX si 0 0 [] 0 sync)->Kx [mi] H H'->C):C:=by
 refine aZ cI.dd λso d1 d2=> ?_
 have e0:=xa (k:= [97]) cI.st d1 d2 (d+1)
 exact vf (i:=0) (t:=0) (cb:= []) (cv:= .none) hm cI.st cI.bb rfl (by decide) (some .none) none d λH1 e1 m1 k1=>
  K H1 (aE rfl rfl (ae (bJ (aw (q:= .fn 90) (v:= .ref si) (aF rfl hm rfl) (bN cI.st) (aa rfl af) e0)) (ae (eZ (an rfl rfl rfl) (ae (bJ rfl) (ae (bJ rfl) (ae (bJ rfl) aj)))) (ae (bJ rfl) (ae (cD (an rfl rfl rfl) aj) e1))))) m1 k1
theorem d0.kx {k:Nat}(h:d0 H k xs)(hm:H[mi]? =some (aX si 0 0 [] 0 sync))(x:Kx [mi] H H'):d0 H' k xs:=by
 refine BL h.ex λv a b c h1 h2 h3 h4 h5=> ?_
 have kk:∀{j:Nat} {o:SO},H[j]? =some o->(∀q,o≠ .inst 15 q)->H'[j]? =some o:=λe ho=>x _ _ (An (cW e hm (ho _))) e
 exact ⟨v,a,b,c,kk h1 λu8=>fH rfl,kk h2 λu8=>fH rfl,kk h3 λu8=>fH rfl,kk h4 λu8=>fH rfl,kk h5 λu8=>fH rfl⟩
theorem O4 (hm:H[mi]? =some (aX si 0 0 [] 0 sync))(cI:eK H si di bi (fW a) bl aU aW)(hk:aU=bl.length)(ha:oa a)(t0:0<=a.term)(t1:a.term<1000)(hc:a.aP=dC xs)(hp:xs.Pairwise (·< ·))(hx:∀x∈xs,x<128)(hl:xs.length<50)(d:Nat){C:Prop}
  (K:∀H' k,run P (d+5) 70 [.ref mi] H= .ok (.tuple [.int a.idx, .int a.term, .ref k]) H'->d0 H' k xs->H'[mi]? =some (aX si a.idx a.term a.aP a.idx sync)->Kx [mi] H H'->C):C:=by
 refine aZ cI.dd λso d1 d2=> ?_
 have i0:=ha.i0
 have i1:=ha.i1
 have e0:=xa (k:= [97]) cI.st d1 d2 (d+3)
 rw [show fW a [97]=some (fz a.idx a.term a.aP) from if_pos rfl] at e0
 refine aZ (wb (d:=d+3) (b:=fz a.idx a.term a.aP) (run P (d+4)) [some (.ref mi),some (.bytes (fz a.idx a.term a.aP)),none,none,none,none,none] 1 rfl H) λH1 e1 s1=> ?_
 rw [show fz a.idx a.term a.aP=vb a.idx++(vb a.term++(a.aP.length:Int)::(a.aP++ [])) by rw [ch];rfl] at s1
 refine aZ (jk (d:=d+1) s1 i0 (by exact iB ‹_› rfl)) λH2 e2 s2=> ?_
 refine aZ (jk (d:=d+1) s2 t0 (by exact iB ‹_› rfl)) λH3 e3 s3=> ?_
 refine aZ (hY (d:=d+1) s3 (dR ha.aP (by decide))) λH4 e4 s4=> ?_
 refine j8 (wc hp hx hl d H4) λH5 k e6 g6 c6=> ?_
 have lG:a.aP≠ []:=by rw [hc];exact λq=>nomatch q
 have g5:=s4.gr.trans g6
 exact vf (i:=a.idx) (t:=a.term) (cb:=a.aP) (cv:= .ref k) (g5.at hm) (g5.at cI.st) (g5.at cI.bb) hk i0 (some (.bytes (fz a.idx a.term a.aP))) (some (.ref H.length)) (d+2) λH6 e7 m7 k7=>
  K H6 k (aE rfl rfl (ae (bJ (aw (q:= .fn 90) (v:= .ref si) (aF rfl hm rfl) (bN cI.st) (aa rfl af) e0)) (ae (cD (an rfl rfl rfl) (ae (bJ e1) (ae (bJ (aw rfl (eU s1 64) af e2)) (ae (bJ (aw rfl (eU s2 64) af e3)) (ae (bJ (aw rfl (eU s3 37) af e4)) (ae (bX (aw rfl (eU s4 19) af (pC (d:=d+3) s4))) aj))))))
   (ae (bJ rfl) (ae (eZ (an rfl rfl (ne_bytes.trans (by rw [aQ lG];rfl))) (ae (bJ (cz (aa (v:= .bytes (dC xs)) (hc▸rfl) af) e6)) aj)) e7))))) (c6.kx (g5.at hm) k7) m7 (g5.kx.trans k7)
noncomputable def pV:List (Nat×List Op)->(By->Option By)->By->Option By
 | [],D=>D
 |p::r,D=>pV r (eT p.2 D)
noncomputable def fM:List (Nat×List Op)->Int
 | []=>0
 |p::r=>p.2.length+fM r
theorem JK (cI:eK H si di bi D bl aU aW)(hr:H[p.1]? =some (.list (p.2.map Op.sv)))(hk:∀o∈p.2,o.key∈U5)(hl:bl.length<1000)(Ro:p.1≠bi)(xW:∀q∈bl,q.1≠bi)(d:Nat){C:Prop}
  (K:∀H',run P (d+1) 87 [.ref si, .ref p.1] H= .ok .none H'->eK H' si di bi (eT p.2 D) (bl++ [p]) aU (aW+p.2.length)->Kx [si,di,bi] H H'->C):C:=by
 refine aZ cI.dd λso d1 d2=> ?_
 refine KJ hk hr cI.st d1 d2 cI.bb (by rw [bI];exact hl) Ro d λH1 Mm e1 s1 q1 D1 b1 k1=> ?_
 have kk:∀{j:Nat} {ops:List Op},j≠bi->H[j]? =some (.list (ops.map Op.sv))->H1[j]? =some (.list (ops.map Op.sv)):=λ{j ops} hj e=>k1 _ _ (we (cW e cI.st (fH rfl)) (cW e d1 (Ne.symm (mQ d2))) hj) e
 exact K H1 e1 ⟨s1,⟨Mm,q1,D1⟩,by rw [eG];exact b1,λq hq=>(gf hq).elim (λhq=>⟨kk (xW q hq) (cI.at_ q hq).1,(cI.at_ q hq).2⟩) λh=>eF h▸⟨kk Ro hr,hk⟩⟩ k1
end
theorem qV:∀(xs ys:List (Nat×List Op)) (D:By->Option By),pV (xs++ys) D=pV ys (pV xs D)
 | [],_,_=>rfl
 |p::r,ys,D=>qV r ys (eT p.2 D)
theorem lf:∀(xs ys:List (Nat×List Op)),fM (xs++ys)=fM xs+fM ys
 | [],ys=>(Int.zero_add _).symm
 |p::r,ys=>by
  show (p.2.length:Int)+fM (r++ys)=p.2.length+fM r+fM ys
  rw [lf r ys,Int.add_assoc]
noncomputable def RE:cA:= .cons (.expr (.ez (.loc 3) 60 (.cons (.loc 4) .nil))) .nil
noncomputable abbrev jU:By->Option By:=λu8=>none
noncomputable def Vi (n:Nat)(f:Nat->Option SV):cR:= [f 0,f 1,f 2,some (.ref n),f 4]
noncomputable def Yk (f:Nat->Option SV)(x:Nat):Nat->Option SV
 |4=>some (.ref x)
 |k=>f k
theorem GB {n:Nat}(d:Nat){C:Prop}(cU:List (Nat×List Op)):∀(done:List (Nat×List Op)) (H:HP) (f:Nat->Option SV),(∀p∈done++cU,p.1<n)->(done++cU).length<1000->eK H n (n+1) (n+2) (pV done jU) done 0 (fM done)->H[n+3]? =some (.list ((done++cU).map λp=> .ref p.1))->
  (∀p∈cU,H[p.1]? =some (.list (p.2.map Op.sv))/\∀o∈p.2,o.key∈U5)->
  (∀H' f',forLoop [4] (λl H=>aK P (run P (d+1)) RE l H) (.ref (n+3)) (cU.length+1) done.length (Vi n f) H= .next (Vi n f') H'->eK H' n (n+1) (n+2) (pV (done++cU) jU) (done++cU) 0 (fM (done++cU))->Kx [n,n+1,n+2] H H'->C)->C:=by
 induction cU with
 |nil=>
  intro done H f hp hl s h3 hb K
  have hit:=(cT (k:=done.length) h3).trans (congrArg some sw)
  rw [ch] at K
  exact K H f (jr hit) s Kx.refl
 |cons p t ih=>
  intro done H f hp hl s h3 hb K
  have hit:=(cT (k:=done.length) h3).trans (congrArg some wJ)
  have Sc:=hl
  rw [aL] at Sc
  have bi:∀q:Nat×List Op,q.1<n->q.1≠n+2:=λq h=>cV (Nat.lt_of_lt_of_le h (gR n 2))
  have Wh:=hp p (List.mem_append_right _ (.head _))
  refine JK (p:=p) s (hb p (.head _)).1 (hb p (.head _)).2 (fJ (gR _ _) Sc) (bi p Wh) (λq hq=>bi q (hp q (List.mem_append_left _ hq))) d λH1 e1 s1 k1=> ?_
  have ea:eT p.2 (pV done jU)=pV (done++ [p]) jU:=(qV done [p] jU).symm
  have eb:fM done+(p.2.length:Int)=fM (done++ [p]):=((lf done [p]).trans (congrArg (fM done+ ·) (Int.add_zero _))).symm
  rw [ea,eb] at s1
  have US:=k1 _ _ (we (by lia) (by lia) (by lia)) h3
  have hd:done++p::t=(done++ [p])++t:=(bZ done [p] t).symm
  rw [hd] at US hl hp K
  refine ih (done++ [p]) H1 (Yk f p.1) hp hl s1 US (λq hq=>⟨k1 _ _ ?_ (hb q (.tail _ hq)).1,(hb q (.tail _ hq)).2⟩) λH2 f2 c1 c3 c4=> ?_
  ·have Si:=hp q (List.mem_append_right _ hq)
   exact we (cV Si) (cV (Nat.lt_succ_of_lt Si)) (bi q Si)
  ·rw [aL (as:=done)] at c1
   exact K H2 f2 (fA hit rfl (ae (bX (aw (q:= .fn 87) (v:= .ref n) rfl (bN s.st) (aa rfl af) e1)) aj) c1) c3 (k1.trans c4)
noncomputable def Ke (H H' :HP):Prop:=∀(i:Nat) (o:SO),H[i]? =some o->H'[i]? =some o
theorem Ke.trans {H H1 H2:HP}(a:Ke H H1)(b:Ke H1 H2):Ke H H2:=λi o e=>b i o (a i o e)
theorem Gr.ke (a:Gr H H1):Ke H H1:=λi o e=>a.at e
theorem Ke.kp (a:Ke H H1):Kp H H1:=λi o e u8=>a i o e
section
variable {H:HP}{si di bi:Nat}{aW:Int}{bl:List (Nat×List Op)}{D:By->Option By}
theorem zw {r n:Nat}(h:H[r]? =some (.list vs)):f8 (.ref r) .none (.int n) H= .ok (.ref H.length) (H++ [SO.list (vs.take n)]):=by
 show (match H[r]? with
  |some (.list vs)=>(match lI vs .none (.int n) with
   |some c=>du.ok (SV.ref H.length) (H++ [SO.list c])
   |none=> .bad)
  |_=> .bad)=_
 rw [h]
 have:lI vs .none (.int n)=some (vs.take n):=by
  show (if (0:Int)<=n then some (vs.take n) else none)=_
  rw [if_pos (fD n)]
 dsimp only
 rw [this]
theorem Tf {aU:Nat}{pick:Int}{keep:Nat}(cI:eK H si di bi D bl aU aW)(hk:aU<=bl.length)(hl:bl.length<1000)(hp:(aU:Int)+pick%((bl.length:Int) - aU+1)=keep)(d:Nat){C:Prop}
  (K:∀H',run P (d+2) 92 [.ref si, .int pick] H= .ok (.ref H.length) H'->eK H' H.length (H.length+1) (H.length+2) (pV (bl.take keep) jU) (bl.take keep) keep (fM (bl.take keep))->Ke H H'->C):C:=by
 have LU:keep<=bl.length:=by
  have:=Int.emod_lt_of_pos pick (show (0:Int)<(bl.length:Int) - aU+1 by lia)
  lia
 have e1:=vi d [some (.ref si),some (.int pick),some (.int keep),none,none] H
 have g1:Gr H (H++ [bF (H.length+1) (H.length+2) 0 0,SO.aM,SO.list []]):=⟨_,rfl⟩
 have e2:=zw (n:=keep) (g1.at cI.bb)
 rw [aL,<-List.map_take] at e2
 have h3:((H++ [bF (H.length+1) (H.length+2) 0 0,SO.aM,SO.list []])++ [SO.list ((bl.take keep).map λp=> .ref p.1)])[H.length+3]? =some (.list ((bl.take keep).map λp=> .ref p.1)):=by
  rw [bZ,eJ (gR _ 3),Nat.add_sub_cancel_left];rfl
 have s0:eK ((H++ [bF (H.length+1) (H.length+2) 0 0,SO.aM,SO.list []])++ [SO.list ((bl.take keep).map λp=> .ref p.1)]) H.length (H.length+1) (H.length+2) (pV [] jU) [] 0 (fM []):=(pE H []).gr ⟨_,rfl⟩
 have g2:=g1.trans (H2:=(H++ [bF (H.length+1) (H.length+2) 0 0,SO.aM,SO.list []])++ [SO.list ((bl.take keep).map λp=> .ref p.1)]) ⟨_,rfl⟩
 have lO:∀p∈bl.take keep,p.1<H.length:=λp hp=>(gw (cI.at_ p (List.mem_of_mem_take hp)).1).1
 refine GB d (bl.take keep) [] _ (λk=>match k with|0=>some (.ref si)|1=>some (.int pick)|2=>some (.int keep)|_=>none) lO (fJ (List.length_take_le' ..) hl) s0 h3 (λp hp=>⟨g2.at (cI.at_ p (List.mem_of_mem_take hp)).1,(cI.at_ p (List.mem_of_mem_take hp)).2⟩) λH2 f2 c1 c3 c4=> ?_
 rw [List.nil_append] at c3
 have e5:=Fq c3.st c3.bb d
 rw [bI,List.length_take_of_le LU] at e5
 have hN:fa (.ref (H.length+3)) ((H++ [bF (H.length+1) (H.length+2) 0 0,SO.aM,SO.list []])++ [SO.list ((bl.take keep).map λp=> .ref p.1)])=(bl.take keep).length:=(dY h3).trans (bI _)
 have em:=ca cI.bb
 rw [bI] at em
 refine aZ c3.dd λso d1 d2=> ?_
 have S2:cF .mod (.int pick) (.int ((bl.length:Int) - aU+1)) H= .ok (.int (pick%((bl.length:Int) - aU+1))) H:=if_pos (by lia)
 exact K _ (aE rfl rfl (ae (bJ (v:= .int keep) (aJ (aF rfl cI.st rfl) (aJ rfl (aJ (aJ (bu (aa (aF rfl cI.st rfl) af) em) (aF rfl cI.st rfl) rfl) rfl rfl) S2) (by rw [<-hp];rfl))) (ae (bJ e1)
  (ae (f_ (v:= .ref (H.length+3)) (Hs (aF rfl (g1.at cI.st) rfl) rfl rfl e2) (by rw [hN];exact c1)) (ae (bX (aw (q:= .fn 88) (v:= .ref H.length) rfl (bN c3.st) af e5)) (aY (bK rfl))))))) ⟨eA c3.st,⟨so,(eN (cV (Nat.lt_succ_self _))).trans d1,d2⟩,(eN (cV (Nat.lt_add_of_pos_right (by decide)))).trans c3.bb,λp hp=>⟨(eN (Nat.ne_of_gt (lO p hp))).trans (c3.at_ p hp).1,(c3.at_ p hp).2⟩⟩ λi o e=>by
   have hi:=(gw e).1
   exact (eN (Nat.ne_of_gt hi)).trans (c4 i o (we (cV hi) (cV (Nat.lt_succ_of_lt hi)) (cV (Nat.lt_succ_of_lt (Nat.lt_succ_of_lt hi)))) (g2.at e))
end
theorem BC:∀x:By,hV x x=false
 | []=>rfl
 |a::r=>by
  show (if a<a then true else if a=a then hV r r else false)=false
  rw [if_neg (by lia),if_pos rfl]
  exact BC r
theorem y4:∀{x y:By},hV x y=true->hV y x=false
 | [], [],h=>nomatch h
 | [],_::_,_=>rfl
 |_::_, [],h=>nomatch h
 |a::r,b::s,h=>by
  have h' :(if a<b then true else if a=b then hV r s else false)=true:=h
  show (if b<a then true else if b=a then hV s r else false)=false
  by_cases q:a<b
  ·rw [if_neg (by exact iP ‹_›),if_neg (by exact iO ‹_›)]
  ·rw [if_neg q] at h'
   by_cases z:a=b
   ·rw [if_pos z] at h'
    rw [if_neg (by lia),if_pos z.symm]
    exact y4 h'
   ·rw [if_neg z] at h'
    exact yb h'
theorem FW (h:∀y∈l,hV x y=true):td x l=x::l:=by
 cases l with
 |nil=>rfl
 |cons y r=>exact if_pos (h y (.head _))
theorem qJ (hp:p x=false):∀{U:List By},U.Pairwise (λa b=>hV a b=true)->x∈U->td x (U.filter p)=U.filter (λk=>decide (k=x)||p k)
 | [],_,h=>j1 h
 |u::us,hU,hx=>by
  rw [List.pairwise_cons] at hU
  by_cases q:x=u
  ·subst q
   rw [List.filter_cons_of_neg (by rw [hp];decide),List.filter_cons_of_pos (by rw [bf rfl];rfl),FW (λy hy=>hU.1 y (List.mem_filter.mp hy).1)]
   congr 1
   apply List.filter_congr
   intro k hk
   have:¬k=x:=λe=>by
    have:=hU.1 k hk
    rw [e,BC] at this
    exact yb this
   rw [aQ this,Bool.false_or]
  ·have UY:x∈us:=(cH hx).resolve_left q
   have ih:=qJ hp hU.2 UY
   by_cases z:p u=true
   ·rw [List.filter_cons_of_pos z,List.filter_cons_of_pos (by rw [z,Bool.or_true])]
    show (if hV x u then x::u::us.filter p else u::td x (us.filter p))=_
    rw [if_neg (by rw [y4 (hU.1 x UY)];decide),ih]
   ·rw [List.filter_cons_of_neg z,List.filter_cons_of_neg (by rw [aQ (Ne.symm q),Bool.false_or];exact z),ih]
theorem oK {U:List By}(hU:U.Pairwise (λa b=>hV a b=true)):∀{l:List By},l.Nodup->(∀k∈l,k∈U)->jF l=U.filter λk=>decide (k∈l)
 | [],_,_=>by
  rw [List.filter_eq_nil_iff.mpr (λa u8=>by simp)];rfl
 |x::r,nd,h=>by
  rw [List.nodup_cons] at nd
  show td x (jF r)=_
  rw [oK hU nd.2 (λk hk=>h k (.tail _ hk)),qJ (by rw [aQ nd.1]) hU (h x (.head _))]
  apply List.filter_congr
  intro k _
  by_cases q:k=x
  ·subst q
   rw [bf rfl,bf (p:=k∈k::r) List.mem_cons_self];rfl
  ·rw [aQ q,Bool.false_or,decide_eq_decide,List.mem_cons]
   exact ⟨.inr,λz=>z.resolve_left q⟩
theorem xu {K:Type}[DecidableEq K]{k:K}:∀{es:List (K×SV)},(fR k es).isSome=true↔k∈es.map (·.1)
 | []=>⟨λh=>(nomatch h),λh=>(j1 h)⟩
 |p::r=>by
  show (if p.1=k then some p.2 else fR k r).isSome=true↔_
  rw [dZ,List.mem_cons]
  by_cases q:p.1=k
  ·rw [if_pos q]
   exact ⟨λu8=> .inl q.symm,λu8=>rfl⟩
  ·rw [if_neg q,xu]
   exact ⟨.inr,λz=>z.resolve_left (Ne.symm q)⟩
theorem xd {U:List By}(hU:U.Pairwise (λa b=>hV a b=true))(hl:U.length<64)(hD:dP U so D){H:HP}{di:Nat}(hd:H[di]? =some so):Mine.bH Bi.sorted [.ref di] H= .ok (.ref H.length) (H++ [SO.list ((U.filter λk=>(D k).isSome).map .bytes)]):=by
 refine Kc hD.ex λes e h1 h2 h3=> ?_
 have hf:jF (es.map λz:By×SV=>z.1)=U.filter λk=>(D k).isSome:=by
  rw [oK hU h2 h3]
  apply List.filter_congr
  intro k _
  have z:=xu (es:=es) (k:=k)
  rw [h1,Option.isSome_map] at z
  by_cases q:k∈es.map (·.1)
  ·exact (bf q).trans (z.mpr q).symm
  ·exact (aQ q).trans (Bool.eq_false_iff.mpr λy=>q (z.mp y)).symm
 show (match H[di]? with
   |some (.list vs)=>(match bT vs with
    |some l=>if l.length<64 then du.ok (SV.ref H.length) (H++ [SO.list ((jJ l).map SV.int)]) else .bad
    |none=> .bad)
   |some (.cg es)=>if es.length<64 then .ok (.ref H.length) (H++ [SO.list ((jF (es.map λz:By×SV=>z.1)).map SV.bytes)]) else .bad
   |some .aM=> .ok (.ref H.length) (H++ [SO.list []])
   |_=> .bad)=_
 rw [hd]
 rcases e with e|⟨e,e2⟩
 ·subst e
  dsimp only
  have:=sY h2 h3
  rw [bI] at this
  rw [if_pos (by exact fJ ‹_› ‹_›),hf]
 ·subst e e2
  dsimp only
  rw [<-hf];rfl
noncomputable def ll (lo:Option By)(k:By):Bool:=match lo with
 |none=>false
 |some l=>hV k l
noncomputable def jh (hi:Option By)(k:By):Bool:=match hi with
 |none=>false
 |some h=> !hV k h
noncomputable def mG (D:By->Option By)(k:By):SV:= .tuple [.bytes k,ob (D k)]
noncomputable def ly (D:By->Option By)(lo hi:Option By)(ks:List By):List By:=ks.filter λk=> !ll lo k&& !jh hi k
noncomputable def Pr:cA:= .cons (.ifs (.and (.cons (.cmp .gm (.loc 1) .none) (.cons (.cmp .lt (.loc 5) (.loc 1)) .nil))) (.cons .cont .nil) .nil) (.cons (.ifs (.and (.cons (.cmp .gm (.loc 2) .none) (.cons (.cmp .ge (.loc 5) (.loc 2)) .nil))) (.cons .cont .nil) .nil) (.cons (.expr (.ez (.loc 4) 1 (.cons (.tuple (.cons (.loc 5) (.cons (.sub (.attr (.loc 0) 40) (.loc 5)) .nil))) .nil))) .nil))
theorem v0 {R:au}(h:gJ P R s l H= .cont l' H'):aK P R (.cons s r) l H= .cont l' H' :=by
 show (match gJ P R s l H with| .next l H=>aK P R r l H|o=>o)=_
 rw [h]
theorem K2 (h:hV a b=q):bU .lt (.bytes a) (.bytes b) H=some q:=congrArg some h
theorem K5 (h:hV a b=q):bU .ge (.bytes a) (.bytes b) H=some (!q):=congrArg (λz=>some (!z)) h
theorem F7 {R:au}{si f:Nat}{lo hi:Option By}:gK P R (.and (.cons (.cmp .gm (.loc 1) .none) (.cons (.cmp .lt (.loc 5) (.loc 1)) .nil))) [some (.ref si),some (ob lo),some (ob hi),some .none,some (.ref f),some (.bytes k)] H= .ok (ll lo k) H:=by
 cases lo with
 |none=>exact cM (iz (an rfl rfl rfl))
 |some b=>
  refine cM (dM (an rfl rfl rfl) ?_)
  unfold ll
  dsimp only
  cases q:hV k b with
  |true=>exact dM (an (x:= .bytes k) (y:= .bytes b) rfl rfl (K2 q)) fN
  |false=>exact iz (an (x:= .bytes k) (y:= .bytes b) rfl rfl (K2 q))
theorem DV {R:au}{si f:Nat}{lo hi:Option By}:gK P R (.and (.cons (.cmp .gm (.loc 2) .none) (.cons (.cmp .ge (.loc 5) (.loc 2)) .nil))) [some (.ref si),some (ob lo),some (ob hi),some .none,some (.ref f),some (.bytes k)] H= .ok (jh hi k) H:=by
 cases hi with
 |none=>exact cM (iz (an rfl rfl rfl))
 |some b=>
  refine cM (dM (an rfl rfl rfl) ?_)
  unfold jh
  dsimp only
  cases q:hV k b with
  |true=>exact iz (an (x:= .bytes k) (y:= .bytes b) rfl rfl (K5 q))
  |false=>exact dM (an (x:= .bytes k) (y:= .bytes b) rfl rfl (K5 q)) fN
section
variable {H:HP}{si di bi:Nat}{aU aW:Int}{so:SO}{D:By->Option By}{lo hi:Option By}
theorem xh {k v:By}(hd:H[di]? =some so)(hD:dP U so D)(hv:D k=some v):dH (.ref di) (.bytes k) H= .ok (.bytes v) H:=by
 refine Kc hD.ex λes e h1 h2 h3=> ?_
 have hg:=pn hD k
 rw [hv] at hg
 unfold dH
 dsimp only
 rw [hd]
 rcases e with e|⟨e,e2⟩<;>(subst e;dsimp only;rw [hg];rfl)
theorem mU (R:au)(hs:H[si]? =some (bF di bi aU aW))(hd:H[di]? =some so)(hD:dy so D)(Q6:∀k∈ks,(D k).isSome=true)(hl:ks.length<64):∀(cU done:List By) (d9:List SV) (z:Option SV),ks=done++cU->d9.length<=done.length->
  ∃l',forLoop [5] (λl H=>aK P R Pr l H) (.ref (H.length+1)) (cU.length+1) done.length [some (.ref si),some (ob lo),some (ob hi),some .none,some (.ref H.length),z] (H++ .list d9:: .list (ks.map .bytes):: [])= .next l' (H++ .list (d9++(ly D lo hi cU).map (mG D)):: .list (ks.map .bytes):: [])/\l'[4]? =some (some (.ref H.length))
 | [],done,d9,z,e,ha=>by
  rw [ch] at e
  subst e
  refine ⟨_,(jr ?_).trans (by rw [show (ly D lo hi []).map (mG D)= [] from rfl,ch]),rfl⟩
  rw [cT rX,List.getElem?_eq_none]
  rw [bI];exact bS _
 |k::t,done,d9,z,e,ha=>by
  have hit:ct (.ref (H.length+1)) done.length (H++ .list d9:: .list (ks.map .bytes):: [])=some (some (.bytes k)):=by
   rw [cT rX,e,eG,eJ (by rw [bI];exact bS _),bI,Nat.sub_self]
   rfl
  have e' :ks=(done++ [k])++t:=by rw [e,bZ];rfl
  by_cases q1:ll lo k=true
  ·obtain ⟨l',h1,h2⟩:=mU R hs hd hD Q6 hl t (done++ [k]) d9 (some (.bytes k)) e' (by rw [aL];lia)
   rw [aL (as:=done)] at h1
   rw [show ly D lo hi (k::t)=ly D lo hi t from List.filter_cons_of_neg (by rw [q1];exact Bool.false_ne_true)]
   exact ⟨l',FC hit rfl (v0 (eZ (F7.trans (by rw [q1])) (v0 rfl))) h1,h2⟩
  have q1:ll lo k=false:=by simpa using q1
  by_cases q2:jh hi k=true
  ·obtain ⟨l',h1,h2⟩:=mU R hs hd hD Q6 hl t (done++ [k]) d9 (some (.bytes k)) e' (by rw [aL];lia)
   rw [aL (as:=done)] at h1
   rw [show ly D lo hi (k::t)=ly D lo hi t from List.filter_cons_of_neg (by rw [q1,q2];exact Bool.false_ne_true)]
   exact ⟨l',FC hit rfl (ae (cD (F7.trans (by rw [q1])) aj) (v0 (eZ (DV.trans (by rw [q2])) (v0 rfl)))) h1,h2⟩
  have q2:jh hi k=false:=by simpa using q2
  obtain ⟨v,hv⟩:=Option.isSome_iff_exists.mp (Q6 k (by rw [e];simp))
  obtain ⟨l',h1,h2⟩:=mU R hs hd hD Q6 hl t (done++ [k]) (d9++ [mG D k]) (some (.bytes k)) e' (by rw [aL,aL];exact Nat.add_le_add_right ha 1)
  rw [aL (as:=done),bZ] at h1
  have g:Gr H (H++SO.list d9:: .list (ks.map .bytes):: []):=⟨_,rfl⟩
  have e3:=jO (R:=R) (H:=H++SO.list d9:: .list (ks.map .bytes):: []) (v:=mG D k) nQ (by
   have:done.length<=ks.length:=by rw [e,aL];exact gR _ _
   exact dR (fJ (cy ha this) hl) (by decide))
  rw [x4] at e3
  have ev:mG D k= .tuple [.bytes k, .bytes v]:=by unfold mG;rw [hv];rfl
  rw [show ly D lo hi (k::t)=k::ly D lo hi t from List.filter_cons_of_pos (by rw [q1,q2];rfl)]
  refine ⟨l',fA hit rfl (ae (cD (F7.trans (by rw [q1])) aj) (ae (cD (DV.trans (by rw [q2])) aj) (ae (bX (aw rfl (bN nQ) (aa (v:=mG D k) (ev▸db (aa rfl (aa (aN (aF rfl (g.at hs) rfl) rfl (xh (g.at hd) hD hv)) af))) af) e3)) aj))) h1,h2⟩
theorem OU:U5.Pairwise (λa b=>hV a b=true):=by decide
theorem wZ (hs:H[si]? =some (bF di bi aU aW))(hd:H[di]? =some so)(hD:dy so D)(d:Nat):run P (d+1) 91 [.ref si,ob lo,ob hi, .none] H= .ok (.ref H.length) (H++ .list ((ly D lo hi (U5.filter λk=>(D k).isSome)).map (mG D)):: .list ((U5.filter λk=>(D k).isSome).map .bytes):: []):=by
 refine aZ (mU (run P d) (lo:=lo) (hi:=hi) (ks:=U5.filter λk=>(D k).isSome) hs hd hD (λk hk=>(List.mem_filter.mp hk).2) (fJ (List.length_filter_le ..) (by decide)) _ [] [] none rfl (bS _)) λl' h1 h2=> ?_
 have g:Gr H (H++ [SO.list []]):=⟨_,rfl⟩
 have e1:=xd OU (by decide) hD (g.at hd)
 rw [aL,nf,List.nil_append] at e1
 have hN:fa (.ref (H.length+1)) (H++ .list []:: .list ((U5.filter λk=>(D k).isSome).map .bytes):: [])=(U5.filter λk=>(D k).isSome).length:=by
  show (match (_:HP)[H.length+1]? with|some (.list vs)=>vs.length|_=>0)=_
  rw [rX]
  exact bI _
 exact aE rfl rfl (ae (cD (an rfl rfl rfl) aj) (ae (bJ (bG af)) (ae (f_ (v:= .ref (H.length+1)) (bu (aa (aF rfl (g.at hs) rfl) af) e1) (by rw [hN];exact h1)) (aY (bK (bc h2))))))
theorem MQ {n:Int}(d:Nat):run P (d+1) 91 [.ref si,x,y, .int n] H= .exc 4 H:=
 lh rfl rfl rfl (gY (eZ (an rfl rfl rfl) (gY (qC rfl))))
end
noncomputable def pv (p:By×By):SV:= .tuple [.bytes p.1, .bytes p.2]
noncomputable def mD (k:By)(o:Option By):List (By×By):=match o with
 |none=> []
 |some v=> [(k,v)]
noncomputable def oB (D:By->Option By)(lo hi:Option By)(k:By):List (By×By):=match D k with
 |none=> []
 |some v=>if (ll lo k||jh hi k)=true then [] else [(k,v)]
theorem kV {lo hi:Option By}(h:(ll lo k||jh hi k)=true):oB D lo hi k= []:=by
 unfold oB
 cases D k with
 |none=>rfl
 |some v=>exact if_pos h
theorem jZ {lo hi:Option By}(e:D k=o)(h:(ll lo k||jh hi k)=false):oB D lo hi k=mD k o:=by
 unfold oB
 rw [e]
 cases o with
 |none=>rfl
 |some v=>exact if_neg (by rw [h];decide)
theorem mS {lo hi:Option By}:∀U:List By,(ly D lo hi (U.filter λk=>(D k).isSome)).map (mG D)=((U.map (oB D lo hi)).flatten).map pv
 | []=>rfl
 |k::r=>by
  rw [dZ,List.flatten_cons,eG,<-mS r]
  cases h:D k with
  |none=>
   rw [List.filter_cons_of_neg (by rw [h];exact Bool.false_ne_true),show oB D lo hi k= [] by unfold oB;rw [h]]
   rfl
  |some v=>
   rw [List.filter_cons_of_pos (by rw [h];rfl)]
   cases z:(ll lo k||jh hi k) with
   |true=>
    rw [kV z]
    unfold ly
    rw [List.filter_cons_of_neg (by rw [<-Bool.not_or,z];decide)]
    rfl
   |false=>
    rw [jZ h z]
    unfold ly
    rw [List.filter_cons_of_pos (by rw [<-Bool.not_or,z];rfl)]
    show mG D k::_=pv (k,v)::_
    congr 1
    unfold mG pv
    rw [h];rfl
theorem Mu (a:AS):fW a [97]=some (fz a.idx a.term a.aP):=if_pos rfl
theorem wD (a:AS):fW a [100]=a.now []:=(if_neg (by decide)).trans (if_pos rfl)
theorem wO (a:AS):fW a [100,107]=a.now [107]:=(if_neg (by decide)).trans ((if_neg (by decide)).trans (if_pos rfl))
theorem CG (a:AS):(U5.map (oB (fW a) (some [100]) (some [101]))).flatten=mD [100] (a.now [])++mD [100,107] (a.now [107]):=by
 show oB _ _ _ [97]++(oB _ _ _ [100]++(oB _ _ _ [100,107]++(oB _ _ _ (de false)++(oB _ _ _ (de true)++ []))))=_
 rw [kV rfl,jZ (wD a) rfl,jZ (wO a) rfl,kV rfl,kV rfl,ch,ch,ch]
 rfl
theorem Dg (a:AS):(U5.map (oB (fW a) (some [115]) (some [116]))).flatten=mD (de false) ((a.S false).map fo)++mD (de true) ((a.S true).map fo):=by
 show oB _ _ _ [97]++(oB _ _ _ [100]++(oB _ _ _ [100,107]++(oB _ _ _ (de false)++(oB _ _ _ (de true)++ []))))=_
 rw [kV rfl,kV rfl,kV rfl,jZ (js a false) rfl,jZ (js a true) rfl,ch]
 rfl
theorem Hf (a:AS):(U5.map (oB (fW a) none none)).flatten=([97],fz a.idx a.term a.aP)::(mD [100] (a.now [])++(mD [100,107] (a.now [107])++(mD (de false) ((a.S false).map fo)++mD (de true) ((a.S true).map fo)))):=by
 show oB _ _ _ [97]++(oB _ _ _ [100]++(oB _ _ _ [100,107]++(oB _ _ _ (de false)++(oB _ _ _ (de true)++ []))))=_
 rw [jZ (Mu a) rfl,jZ (wD a) rfl,jZ (wO a) rfl,jZ (js a false) rfl,jZ (js a true) rfl,ch]
 rfl
theorem Nq (lo hi:Option By):(U5.map (oB (λu8=>none) lo hi)).flatten= []:=rfl
theorem LK {H G:HP}(h:G[0]? =some o):(H++a::G)[H.length+1]? =some o:=by
 rw [eJ (gR _ 1),Nat.add_sub_cancel_left]
 exact h
theorem GI {α:Type}{enc g:α->SV}{F:(Nat->Option SV)->cR}{B:(Nat->Option SV)->α->cR}{xs:List α}(hi:∀f x,kH (F f) is (enc x)=some (B f x))
  (hb:∀x∈xs,∀f d9 G,d9.length<64->∀{C:Prop},(∀f' G',body (B f x) (H++ .list d9::G)= .next (F f') (H++ .list (d9++ [g x])::(G++G'))->C)->C) {C:Prop} (cU:List α):
  ∀(done:List α) (d9:List SV) (G:HP) (f:Nat->Option SV),xs=done++cU->G[0]? =some (.list (xs.map enc))->d9.length+cU.length<64->
   (∀f' G',forLoop is body (.ref (H.length+1)) (cU.length+1) done.length (F f) (H++ .list d9::G)= .next (F f') (H++ .list (d9++cU.map g)::(G++G'))->C)->C:=by
 induction cU with
 |nil=>
  intro done d9 G f e hG hl K
  have hit:=cT (k:=done.length) (LK (H:=H) (a:= .list d9) hG)
  rw [e,sw] at hit
  exact K f [] ((jr hit).trans (by rw [List.map_nil,ch,ch]))
 |cons x t ih=>
  intro done d9 G f e hG hl K
  have hit:=cT (k:=done.length) (LK (H:=H) (a:= .list d9) hG)
  rw [e,wJ] at hit
  rw [dq] at hl
  refine hb x (e▸List.mem_append_right _ (.head _)) f d9 G (by lia) λf1 G1 b2=> ?_
  refine ih (done++ [x]) (d9++ [g x]) (G++G1) f1 (e.trans (bZ done [x] t).symm) ((iT (gw hG).1).trans hG) (by rw [aL];show d9.length+1+t.length<64;lia) λf2 G2 c1=> ?_
  rw [aL (as:=done),bZ,bZ] at c1
  exact K f2 (G1++G2) (fA hit (hi f x) b2 c1)
theorem BE {α:Type}{enc g:α->SV}{R:au}{F:(Nat->Option SV)->cR}{B:(Nat->Option SV)->α->cR}{xs:List α}(hi:∀f x,kH (F f) is (enc x)=some (B f x))
  (hb:∀x∈xs,∀f d9 G,d9.length<64->∀{C:Prop},(∀f' G',aK P R b (B f x) (H++ .list d9::G)= .next (F f') (H++ .list (d9++ [g x])::(G++G'))->C)->C) (hG:G[0]? =some (.list (xs.map enc))) (hl:xs.length<64) (f:Nat->Option SV) {C:Prop}
  (K:∀f' G',forLoop is (λl H=>aK P R b l H) (.ref (H.length+1)) (fa (.ref (H.length+1)) (H++ .list []::G)+1) 0 (F f) (H++ .list []::G)= .next (F f') (H++ .list (xs.map g)::(G++G'))->C):C:=
 GI hi hb xs [] [] G f rfl hG (by rw [List.length_nil,Nat.zero_add];exact hl) λf' G' h=>K f' G' (((dY (LK hG)).trans (bI _))▸h)
noncomputable def dQ (a:AS):List (By×By):=mD [] (a.now [])++mD [107] (a.now [107])
noncomputable def o9 (a:AS):List (Bool×(Int×Bool×By)):=(match a.S false with
 |none=> []
 |some s=> [(false,s)])++(match a.S true with
 |none=> []
 |some s=> [(true,s)])
noncomputable def o8 (p:Bool×(Int×Bool×By)):SV:= .tuple [.int (cl p.1), .int p.2.1, .bool p.2.2.1, .bytes p.2.2.2]
theorem KM {x:Int}:f8 (.bytes (x::b)) (.int 1) .none H= .ok (.bytes b) H:=rfl
theorem zV (w:Bool)(d:Nat)(H:HP):run P (d+1) 66 [.bytes (de w)] H= .ok (.int (cl w)) H:=by cases w<;>rfl
theorem GX (a:AS):(mD [100] (a.now [])++mD [100,107] (a.now [107])).map pv=(dQ a).map λp=>pv (100::p.1,p.2):=by
 unfold dQ
 cases a.now []<;>cases a.now [107]<;>rfl
theorem Iv (a:AS):(mD (de false) ((a.S false).map fo)++mD (de true) ((a.S true).map fo)).map pv=(o9 a).map λp=>pv (de p.1,fo p.2):=by
 unfold o9
 cases a.S false<;>cases a.S true<;>rfl
theorem Hm (a:AS):(dQ a).length<64:=by unfold dQ;cases a.now []<;>cases a.now [107]<;>exact Nat.le_of_ble_eq_true rfl
theorem Jk (a:AS):(o9 a).length<64:=by unfold o9;cases a.S false<;>cases a.S true<;>exact Nat.le_of_ble_eq_true rfl
theorem LR (h:p∈o9 a):a.S p.1=some p.2:=by
 unfold o9 at h
 rcases gf h with h|h
 ·cases q:a.S false with
  |none=>rw [q] at h;exact j1 h
  |some s=>rw [q] at h;rw [eF h];exact q
 ·cases q:a.S true with
  |none=>rw [q] at h;exact j1 h
  |some s=>rw [q] at h;rw [eF h];exact q
noncomputable def S6 (m n:Nat)(f:Nat->Option SV):cR:= [some (.ref m),some (.ref n),f 2,f 3]
noncomputable def So (m n:Nat)(f:Nat->Option SV):cR:= [some (.ref m),some (.ref n),f 2,f 3,f 4,f 5,f 6]
section
variable {H:HP}{si di bi mi:Nat}{aU aW aO:Int}{sync:Bool}{bl:List (Nat×List Op)}{a:AS}
theorem LY (hm:H[mi]? =some (aX si a.idx a.term a.aP aO sync))(cI:eK H si di bi (fW a) bl aU aW)(d:Nat){C:Prop}(K:∀H' k,run P (d+2) 81 [.ref mi] H= .ok (.ref k) H'->H'[k]? =some (.list ((dQ a).map pv))->Gr H H'->C):C:=by
 have g:Gr H (H++ [SO.list []]):=⟨_,rfl⟩
 refine aZ cI.dd λso d1 d2=> ?_
 have e1:=wZ (lo:=some [100]) (hi:=some [101]) (g.at cI.st) (g.at d1) d2 d
 rw [mS,CG,aL,nf,GX] at e1
 refine BE (R:=run P (d+1)) (enc:=λp:By×By=>pv (100::p.1,p.2)) (g:=pv) (is:= [2,3]) (b:= .cons (.expr (.ez (.loc 1) 1 (.cons (.tuple (.cons (.slice (.loc 2) (.bH .len (.cons (.bytes [100]) .nil)) .none) (.cons (.loc 3) .nil))) .nil))) .nil) (H:=H) (xs:=dQ a) (F:=S6 mi H.length) (B:=λf p=>dJ (S6 mi H.length f) [2,3] [.bytes (100::p.1), .bytes p.2])
  (G:= []++ [SO.list ((dQ a).map λp=>pv (100::p.1,p.2)), .list ((U5.filter λk=>(fW a k).isSome).map .bytes)]) (λu8 u8=>rfl) (λp u8 f d9 G ha C k=> ?_) rfl (Hm a) (λu8=>none) λf' G' h1=>K _ H.length (aE rfl rfl (ae (bJ (bG af)) (ae (f_ (v:= .ref (H.length+1)) (aw (q:= .fn 91) (v:= .ref si) (aF rfl (g.at hm) rfl) (bN (g.at cI.st)) (aa rfl (aa rfl (aa rfl af))) e1) h1) (aY (bK rfl))))) nQ ⟨_,rfl⟩
 have e2:=jO (R:=run P (d+1)) (H:=H++SO.list d9::G) (v:=pv p) nQ (dR ha (by decide))
 rw [x4] at e2
 exact k _ [] ((ch G).symm▸nc (S6 mi H.length) (ae (bX (aw rfl (bN nQ) (aa (db (aa (Hs (x:= .bytes (100::p.1)) rfl rfl rfl KM) (aa (v:= .bytes p.2) rfl af))) af) e2)) aj) rfl)
theorem zu (hm:H[mi]? =some (aX si a.idx a.term a.aP aO sync))(cI:eK H si di bi (fW a) bl aU aW)(ha:oa a)(d:Nat){C:Prop}(K:∀H' k,run P (d+5) 82 [.ref mi] H= .ok (.ref k) H'->H'[k]? =some (.list ((o9 a).map o8))->Gr H H'->C):C:=by
 have g:Gr H (H++ [SO.list []]):=⟨_,rfl⟩
 refine aZ cI.dd λso d1 d2=> ?_
 have e1:=wZ (lo:=some [115]) (hi:=some [116]) (g.at cI.st) (g.at d1) d2 (d+3)
 rw [mS,Dg,aL,nf,Iv] at e1
 refine BE (R:=run P (d+4)) (enc:=λp:Bool×(Int×Bool×By)=>pv (de p.1,fo p.2)) (g:=o8) (is:= [2,3]) (b:= .cons (.j3 (.tup [4,5,6]) (.fT 68 (.cons (.loc 3) .nil))) (.cons (.expr (.ez (.loc 1) 1 (.cons (.tuple (.cons (.fT 66 (.cons (.loc 2) .nil)) (.cons (.loc 4) (.cons (.loc 5) (.cons (.loc 6) .nil))))) .nil))) .nil)) (H:=H) (xs:=o9 a) (F:=So mi H.length) (B:=λf p=>dJ (So mi H.length f) [2,3] [.bytes (de p.1), .bytes (fo p.2)])
  (G:= []++ [SO.list ((o9 a).map λp=>pv (de p.1,fo p.2)), .list ((U5.filter λk=>(fW a k).isSome).map .bytes)]) (λu8 u8=>rfl) (λp hp f d9 G hl C k=> ?_) rfl (Jk a) (λu8=>none) λf' G' h1=>K _ H.length (aE rfl rfl (ae (bJ (bG af)) (ae (f_ (v:= .ref (H.length+1)) (aw (q:= .fn 91) (v:= .ref si) (aF rfl (g.at hm) rfl) (bN (g.at cI.st)) (aa rfl (aa rfl (aa rfl af))) e1) h1) (aY (bK rfl))))) nQ ⟨_,rfl⟩
 refine rB ((ha.S p.1).ok _ (LR hp)) λo1 o2 o3=> ?_
 obtain ⟨H2,e2,G2,q2⟩:=lw (op:=p.2.2.1) o1 o2 o3 d (H++SO.list d9::G)
 rw [q2,nf] at e2
 have e3:=jO (R:=run P (d+4)) (H:=H++SO.list d9::(G++G2)) (v:=o8 p) nQ (dR hl (by decide))
 rw [x4] at e3
 exact k _ G2 (nc (So mi H.length) (ae (lz (cz (aa (v:= .bytes (fo p.2)) rfl af) e2) rfl) (ae (bX (aw rfl (bN nQ) (aa (db (aa (cz (aa (v:= .bytes (de p.1)) rfl af) (zV p.1 (d+3) _)) (aa rfl (aa rfl (aa rfl af))))) af) e3)) aj)) rfl)
theorem PJ (hm:H[mi]? =some (aX si a.idx a.term a.aP aO sync))(cI:eK H si di bi (fW a) bl aU aW)(ha:oa a)(d:Nat):∃H',run P (d+6) 83 [.ref mi] H= .ok (.tuple [.int a.idx, .int a.term, .bytes a.aP, .tuple ((dQ a).map pv), .tuple ((o9 a).map o8)]) H' /\Gr H H' :=by
 refine LY hm cI (d+3) λH1 k1 e1 h1 g1=>zu (g1.at hm) (cI.gr g1) ha d λH2 k2 e2 h2 g2=> ?_
 exact ⟨H2,aE rfl rfl (aY (bK (db (aa (aF rfl hm rfl) (aa (aF rfl hm rfl) (aa (aF rfl hm rfl) (aa (bu (aa (aw (q:= .fn 81) (v:= .ref mi) (R:=run P (d+5)) rfl (bN hm) af e1) af) (fZ h1)) (aa (bu (aa (aw (q:= .fn 82) (v:= .ref mi) (R:=run P (d+5)) rfl (bN (g1.at hm)) af e2) af) (fZ h2)) af)))))))),g1.trans g2⟩
noncomputable def uE (s:kN):SV:=match s with
 |none=> .none
 |some s=>if s.2.1 then .tuple [.int s.1, .bytes s.2.2] else .none
theorem u6 {w:Bool}(hm:H[mi]? =some (aX si a.idx a.term a.aP aO sync))(cI:eK H si di bi (fW a) bl aU aW)(ha:oa a)(d:Nat):∃H',run P (d+6) 80 [.ref mi, .int (cl w)] H= .ok (uE (a.S w)) H' /\Gr H H' :=by
 refine aZ cI.dd λso d1 d2=> ?_
 refine aZ (oY (w:=w) (S:=a.S w) hm cI.st d1 d2 (js a w) (ha.S w) d) λH1 e1 g1=> ?_
 refine ⟨H1, ?_,g1⟩
 have hc:cX (a.S w)=false->uE (a.S w)= .none:=λq=>by
  unfold uE
  unfold cX at q
  cases z:a.S w with
  |none=>rfl
  |some s=>
   rw [z] at q
   exact if_neg (by rw [show s.2.1=false from q];decide)
 have ho:cX (a.S w)=true->uE (a.S w)= .tuple [.int (cG (a.S w)), .bytes (f0 (a.S w))]:=λq=>by
  unfold uE
  unfold cX at q
  cases z:a.S w with
  |none=>rw [z] at q;exact yb q
  |some s=>
   rw [z] at q
   exact if_pos q
 cases q:cX (a.S w) with
 |false=>
  rw [q] at e1
  rw [hc q]
  exact aE rfl rfl (ae (lz (aw (q:= .fn 79) (v:= .ref mi) rfl (bN hm) (aa rfl af) e1) rfl) (aY (eZ (mt (q:=false) rfl) (aY (bK rfl)))))
 |true=>
  rw [q] at e1
  rw [ho q]
  exact aE rfl rfl (ae (lz (aw (q:= .fn 79) (v:= .ref mi) rfl (bN hm) (aa rfl af) e1) rfl) (ae (cD (mt (q:=true) rfl) aj) (aY (bK (db (aa rfl (aa rfl af)))))))
end
theorem qN (d:Nat)(H:HP):run P (d+1) 93 [] H= .ok (.ref H.length) (H++ [.list [.int 5, .int 300]]):=aE rfl rfl (aY (bK (bG (aa rfl (aa rfl af)))))
theorem yE (d:Nat)(H:HP):run P (d+1) 94 [] H= .ok (.ref H.length) (H++ [.list [.bytes [], .bytes [107]]]):=aE rfl rfl (aY (bK (bG (aa rfl (aa rfl af)))))
noncomputable def qx:List Int:= [4,1,3,3,2,4,6,5,0,3]
theorem CM (d:Nat)(H:HP):run P (d+1) 95 [] H= .ok (.ref H.length) (H++ [.list (iL qx)]):=aE rfl rfl (aY (bK (bG rfl)))
theorem fG {a m:Int}(h0:0<m)(h1:m<1000000000):cF .mod (.int a) (.int m) H= .ok (.int (a%m)) H:=if_pos ⟨h0,h1⟩
theorem mM {a m:Int}(h0:0<m)(h1:m<1000000000):cF .fdiv (.int a) (.int m) H= .ok (.int (a/m)) H:=if_pos ⟨h0,h1⟩
theorem IA {a m:Int}(h0:a.natAbs<4294967296):cF .mul (.int a) (.int m) H= .ok (.int (a*m)) H:=if_pos h0
theorem gG {r k:Nat}(h:H[r]? =some (.list vs))(hv:vs[k]? =some v):dH (.ref r) (.int k) H= .ok v H:=by
 have hk:=(gw hv).1
 unfold dH
 dsimp only
 rw [h]
 dsimp only
 have h1:cP (k:Int) vs.length=true:=by
  unfold cP
  rw [bf (by lia),bf (by exact Int.ofNat_lt.mpr ‹_›)];rfl
 have h2:cu (k:Int) vs.length=k:=by
  unfold cu
  rw [if_pos (fD _)];rfl
 rw [h1,h2,hv]
noncomputable def DQ (ns:List Int)(i:Nat):Int:=ns.getD (i%ns.length) 0+31*((i/ns.length:Nat):Int)
theorem w8 {r:Nat}(h:H[r]? =some (.list (iL ns)))(h0:ns.length≠0)(h1:ns.length<1000)(i:Nat)(d:Nat):run P (d+1) 96 [.ref r, .int i] H= .ok (.int (DQ ns i)) H:=by
 have hl:=ca h
 rw [show (iL ns).length=ns.length from bI _] at hl
 have hm:cF .mod (.int i) (.int ns.length) H= .ok (.int ((i%ns.length:Nat):Int)) H:=fG (by exact iH ‹_›) (by exact iF ‹_› rfl)
 have hd:cF .fdiv (.int i) (.int ns.length) H= .ok (.int ((i/ns.length:Nat):Int)) H:=mM (by exact iH ‹_›) (by exact iF ‹_› rfl)
 have hx:i%ns.length<ns.length:=Nat.mod_lt _ (by exact Nat.pos_of_ne_zero ‹_›)
 have hv:(iL ns)[i%ns.length]? =some (.int (ns.getD (i%ns.length) 0)):=by
  unfold iL
  rw [iW,List.getD_eq_getElem?_getD,eV hx];rfl
 exact aE rfl rfl (aY (bK (aJ (aN rfl (aJ rfl (bu (aa rfl af) hl) hm) (gG h hv)) (aJ rfl (aJ rfl (bu (aa rfl af) hl) hd) (IA (by decide))) rfl)))
theorem oi {n:Int}(h0:0<=n)(h1:n<16384)(d:Nat)(H:HP):∃H',run P (d+1) 97 [.int n] H= .ok (.bytes (vb n)) H' /\Gr H H' :=by
 unfold vb
 by_cases q:n<128
 ·rw [if_pos q]
  exact ⟨_,aE rfl rfl (aY (eZ (an rfl rfl (gv (bf q))) (aY (bK (bu (aa (bG (aa rfl af)) af) (cJ (dU ..) rfl (kD h0 (by exact iB ‹_› rfl)))))))),⟨_,rfl⟩⟩
 ·rw [if_neg q]
  have ho:lJ [n%128+128,n/128]=true:=by
   show (decide (0<=n%128+128)&&decide (n%128+128<256)&&(decide (0<=n/128)&&decide (n/128<256)&&true))=true
   rw [bf (by lia),bf (by lia),bf (by lia),bf (by lia)];rfl
  exact ⟨_,aE rfl rfl (ae (cD (an rfl rfl (gv (aQ q))) aj) (aY (bK (bu (aa (bG (aa (aJ (aJ rfl rfl (fG (by decide) (by decide))) rfl rfl) (aa (aJ rfl rfl (mM (by decide) (by decide))) af))) af) (cJ (dU ..) rfl ho))))),⟨_,rfl⟩⟩
theorem B0 (ho:∀b,o=some b->b.length<200)(d:Nat)(H:HP):∃H',run P (d+1) 98 [ob o] H= .ok (.bytes (mb o)) H' /\Gr H H' :=by
 cases o with
 |none=>exact ⟨H,aE rfl rfl (aY (eZ (an rfl rfl rfl) (aY (bK rfl)))),Gr.refl⟩
 |some b=>
  have hb:=ho b rfl
  have Tn:lJ [1,(b.length:Int)]=true:=by
   show (true&&(decide ((0:Int)<=b.length)&&decide ((b.length:Int)<256)&&true))=true
   rw [bf (by exact fD _),bf (by exact iF ‹_› rfl)];rfl
  have e1:cF .add (.bytes [1,(b.length:Int)]) (.bytes b) (H++ [SO.list [.int 1, .int b.length]])= .ok (.bytes ([1,(b.length:Int)]++b)) (H++ [SO.list [.int 1, .int b.length]]):=if_pos (by show 2+b.length<=4096;lia)
  exact ⟨_,aE rfl rfl (ae (cD (an rfl rfl rfl) aj) (aY (bK (aJ (bu (aa (bG (aa rfl (aa (bu (aa rfl af) pQ) af))) af) (cJ (dU ..) rfl Tn)) rfl e1)))),⟨_,rfl⟩⟩
noncomputable def qZ:Nat->List SV->List (Int×SV)
 |_, []=> []
 |i,v::r=>((i:Int),v)::qZ (i+1) r
noncomputable def qD (vs:List SV):SO:=match vs with
 | []=> .aM
 |v::r=> .dB (qZ 0 (v::r))
theorem y9:∀(vs:List SV) (i k:Nat),fR ((i+k:Nat):Int) (qZ i vs)=vs[k]?
 | [],_,_=>rfl
 |v::r,i,k=>by
  show (if (i:Int)=((i+k:Nat):Int) then some v else fR ((i+k:Nat):Int) (qZ (i+1) r))=_
  cases k with
  |zero=>exact if_pos rfl
  |succ k=>
   rw [if_neg (by lia),show i+(k+1)=i+1+k by lia,y9 r (i+1) k]
   rfl
theorem yu:∀(vs:List SV) (i:Nat) (v:SV),kM ((i+vs.length:Nat):Int) v (qZ i vs)=qZ i (vs++ [v])
 | [],_,_=>rfl
 |u::r,i,v=>by
  show (if (i:Int)=((i+(r.length+1):Nat):Int) then _ else ((i:Int),u)::kM ((i+(r.length+1):Nat):Int) v (qZ (i+1) r))=_
  rw [if_neg (by lia),show i+(r.length+1)=i+1+r.length by lia,yu r (i+1) v]
  rfl
theorem yO:∀(vs:List SV) (i:Nat),(qZ i vs).length=vs.length
 | [],_=>rfl
 |_::r,i=>congrArg (·+1) (yO r (i+1))
theorem Bw (vs:List SV)(k:Nat):hZ (.int k) (qD vs)=some vs[k]? :=by
 cases vs with
 |nil=>rfl
 |cons v r=>
  have:=y9 (v::r) 0 k
  rw [Nat.zero_add] at this
  exact congrArg some this
theorem A5 (vs:List SV)(v:SV)(h:vs.length<4096):uG (.int vs.length) v (qD vs)=some (qD (vs++ [v])):=by
 cases vs with
 |nil=>rfl
 |cons u r=>
  have:=yu (u::r) 0 v
  rw [Nat.zero_add] at this
  refine (if_pos (by rw [yO];exact h)).trans ?_
  rw [this];rfl
structure bg where
 dD:Bool
 c:iX
noncomputable def wi (w:Bool):Int:=if w then 1 else 0
noncomputable def bg.sv (a:bg):SV:= .tuple [.int (wi a.dD), .int a.c.number, .int a.c.kind, .bytes a.c.key, .bytes a.c.value,ob a.c.expect]
structure bo where
 term:Int
 mem:Nat
 er:SV
 one:Option Nat
 cr:SV
noncomputable def Dj:Option Nat->Int
 |none=> -1
 |some k=>k
noncomputable def bo.sv (e:bo):SV:= .tuple [.int e.term, .int e.mem,e.er, .int (Dj e.one),e.cr]
structure RS where
 fB:List (Option By)
 ec:List Int
 now:By->Option By
 done:Bool->List Nat
 told:List By
 since:List Nat
noncomputable def dA:bg:=⟨false,⟨0,0,0, [], [],none⟩⟩
noncomputable def iw (ak:List bg)(done:List Nat):Bool:=match done.getLast? with
 |none=>true
 |some k=>decide ((ak.getD k dA).c.kind=6)
noncomputable def RS.note (s:RS)(r:Option By)(c:Int):RS:={s with fB:=s.fB++ [r],ec:=s.ec++ [c]}
noncomputable def RS.tell (s:RS)(b:By)(n:Nat):RS:={s with told:=s.told++ [b],since:=s.since++ [n]}
noncomputable def RS.Mx (s:RS)(f:By->Option By):RS:={s with now:=f}
noncomputable def RS.Eh (s:RS)(w:Bool)(k:Nat):RS:={s with done:=λy=>if y=w then s.done y++ [k] else s.done y}
noncomputable def RS.ze (s:RS)(c:iX):RS:=s.Mx (Nh c.key (dm c (s.now c.key)) s.now)
noncomputable def dz (ak:List bg)(s:RS):Option Nat->RS
 |none=>s.note none 1
 |some k=>
  let a:=ak.getD k dA
  if k<s.told.length then s.note (some (if s.since.getD k 0<(s.done a.dD).length then [3,0] else s.told.getD k [])) 1
  else if (!decide (a.c.kind=5)&&iw ak (s.done a.dD))=true then (s.tell [2,0] (s.done a.dD).length).note (some [2,0]) 1
  else (((s.ze a.c).Eh a.dD k).tell (bE a.c (s.now a.c.key)) ((s.done a.dD).length+1)).note (some (bE a.c (s.now a.c.key))) (if (dm a.c (s.now a.c.key)).isSome then 3 else 2)
noncomputable def mT:RS:=⟨[], [],λu8=>none,λu8=> [], [], []⟩
noncomputable def cE (ak:List bg)(s:RS):List bo->RS
 | []=>s
 |e::r=>cE ak (dz ak s e.one) r
section
variable {H0 L G G' :HP}{k:Nat}{o:SO}
theorem CO (h:L[k]? =some o):(H0++(L++G))[H0.length+k]? =some o:=by
 rw [eJ (gR _ _),Nat.add_sub_cancel_left,iT (gw h).1]
 exact h
theorem zR (h:k<L.length):(H0++(L++G)).set (H0.length+k) o=H0++(L.set k o++G):=by
 rw [List.set_append_right _ _ (gR _ _),Nat.add_sub_cancel_left,List.set_append_left _ _ h]
theorem RD:(H0++(L++G))++G' =H0++(L++(G++G')):=by rw [bZ,bZ]
end
noncomputable def dn (l:List Nat):List SV:=l.map λk=> .int (k:Nat)
noncomputable def rL (n:Nat)(s:RS)(so:SO):HP:= [.list (s.fB.map ob), .list (s.ec.map .int),so, .list (dn (s.done false)), .list (dn (s.done true)), .list [.ref (n+3), .ref (n+4)],qD (s.told.map .bytes),qD (dn s.since)]
noncomputable def U2:List By:= [[], [107]]
noncomputable def Kd:SS:=cK (bx 2 (kJ (cK (bx 2 (nN (cK (kJ (cK (bx 2 (tD (cK (bx 6 Rw))))))))))))
section
variable {R:au}{l:cR}{H H1 H2:HP}{e e1:SE}{p q:Bool}
theorem GA (h:bj P R e l H= .ok (.bool p) H1)(h2:p=false->bj P R e1 l H1= .ok (.bool q) H1):bj P R (.or (.cons e (.cons e1 .nil))) l H= .ok (.bool (p||q)) H1:=by
 show (bj P R e l H).bind _=_
 rw [h]
 cases p with
 |true=>rfl
 |false=>exact h2 rfl
theorem Qe (a b:Option By)(H:HP):bU .eq (ob a) (ob b) H=some (decide (a=b)):=by
 cases a with
 |none=>cases b<;>rfl
 |some x=>cases b with
  |none=>rfl
  |some y=>
   show some (x==y)=_
   by_cases q:x=y
   ·subst q
    rw [iu,bf rfl]
   ·rw [eX q,aQ (λe=>q (cq e))]
theorem gy {i:Nat}(h:l[i]? =some (some (.bool q))):gK P R (.loc i) l H= .ok q H:=by
 show (match l[i]? with|some (some v)=>ff (eP v H) H|_=> .bad)=_
 rw [h];rfl
theorem E8 {di:Nat}(hd:H[di]? =some so)(hD:dP U so D):dl R .iV (.ref di) [.bytes k] H= .ok (ob (D k)) H:=by
 show (match H[di]? with
   |some o=>(match hZ (.bytes k) o with|some x=>du.ok (x.getD .none) H|none=> .bad)
   |none=> .bad)=_
 rw [hd]
 dsimp only
 rw [pn hD]
 cases D k<;>rfl
theorem vY {di:Nat}(hd:H[di]? =some so)(hD:dP U so D):d6 P (.ref di) 27 H=some .iV:=by
 rw [bN hd]
 obtain ⟨es,e|⟨e,_⟩,_⟩:=hD.ex<;>subst e<;>rfl
end
theorem RU (hi:¬idle c=true)(h:c.kind=2):dm c cx=match cx with
  |some _=>some none
  |none=>none:=(if_neg hi).trans ((if_neg (by lia)).trans (if_pos h))
theorem Tp (hi:¬idle c=true)(h:c.kind=3):dm c cx=if cx=c.expect then some (some c.value) else none:=(if_neg hi).trans ((if_neg (by lia)).trans ((if_neg (by lia)).trans (if_pos h)))
theorem R7 (hi:¬idle c=true)(h:c.kind=1):dm c cx=some (some c.value):=(if_neg hi).trans (if_pos h)
theorem S8 {cx:Option By}(hi:¬idle c=true)(h:c.kind≠1)(h2:c.kind≠2)(h3:c.kind≠3):dm c cx=match cx with
  |none=>some (some c.value)
  |some o=>some (some (o++c.value)):=(if_neg hi).trans ((if_neg h).trans ((if_neg h2).trans (if_neg h3)))
noncomputable def oD (lg ak n:Nat)(f:Nat->Option SV):cR:= [some (.ref lg),some (.ref ak),some (.ref n),some (.ref (n+1)),some (.ref (n+2)),some (.ref (n+5)),some (.ref (n+6)),some (.ref (n+7)),f 8,f 9,f 10,f 11,f 12,f 13,f 14,f 15,f 16,f 17,f 18,f 19,f 20,f 21,f 22,f 23]
noncomputable def rH (H0:HP)(s:RS)(so:SO)(G:HP):HP:=H0++(rL H0.length s so++G)
noncomputable def y7 (f:Nat->Option SV)(c:iX)(cost:Int)(cx:SV)(right:Bool):Nat->Option SV
 |14=>some (.int cost)
 |17=>some (.int c.kind)
 |18=>some (.bytes c.key)
 |19=>some (.bytes c.value)
 |20=>some (ob c.expect)
 |22=>some cx
 |23=>some (.bool right)
 |k=>f k
section
variable {H0 G:HP}{s:RS}{so:SO}{lg ak:Nat}{c:iX}{R:au}
theorem wL:(rH H0 s so G)[H0.length+2]? =some so:=CO rfl
theorem Hz:(rH H0 s so G).set (H0.length+2) fj=rH H0 s fj G:=zR (show 2<8 by decide)
theorem wt (hD:dP U2 so s.now)(hk:k∈U2){C:Prop}(K:∀fj,jL (.ref (H0.length+2)) (.bytes k) (.bytes v) (rH H0 s so G)=some (rH H0 s fj G)->dP U2 fj (λx=>if x=k then some v else s.now x)->C):C:=by
 refine aZ (yF (k:=k) (b:=v) hD hk (by decide)) λfj h1 h2=> ?_
 exact K fj ((ph wL h1).trans (congrArg some Hz)) h2
noncomputable def RA:SS:=cK (bx 1 (nN (cK (kJ (cK (bx 2 (nN Kd)))))))
theorem Fx (hD:dP U2 so s.now)(k0:0<=c.kind)(k6:c.kind<=6)(hk:c.key= []∨c.key= [107])(hv:c.value.length=1)(hn:∀b,s.now c.key=some b->b.length<=90)(f:Nat->Option SV){C:Prop}
  (K:∀fj right,gJ P R Kd (oD lg ak H0.length (y7 f c 1 .none true)) (rH H0 s so G)= .next (oD lg ak H0.length (y7 f c (if (dm c (s.now c.key)).isSome then 2 else 1) (ob (if idle c then none else s.now c.key)) right)) (rH H0 (s.ze c) fj G)->
   dP U2 fj (s.ze c).now->bE c (s.now c.key)=(if right then 0 else 1)::mb (if idle c then none else s.now c.key)->C):C:=by
 have Lx:c.key∈U2:=by rcases hk with q|q<;>rw [q]<;>decide
 unfold RS.ze at K
 by_cases hi:idle c=true
 ·have QT:dm c (s.now c.key)=none:=if_pos hi
  rw [QT,if_pos hi] at K
  refine K so true (cD ?_ aj) hD (if_pos hi)
  unfold idle at hi
  simp only [Bool.or_eq_true,decide_eq_true_eq] at hi
  by_cases q:0<c.kind
  ·exact cM (dM (an rfl rfl (jG (bf q))) (iz (an rfl rfl (gv (aQ (by lia))))))
  ·exact cM (iz (an rfl rfl (jG (aQ q))))
 have je:0<c.kind/\c.kind<5:=by
  have:=AJ hi
  lia
 rw [if_neg hi] at K
 generalize ho:s.now c.key=cx at hn K
 have go:∀(right:Bool) {o:cQ},(!decide (c.kind=3)||decide (cx=c.expect))=right->aK P R (bx 2 (nN Kd)) (oD lg ak H0.length (y7 f c 1 (ob cx) right)) (rH H0 s so G)=o->gJ P R Kd (oD lg ak H0.length (y7 f c 1 .none true)) (rH H0 s so G)=o:=λright o hr h=>
  eZ (cM (dM (an rfl rfl (jG (bf je.1))) (dM (an rfl rfl (gv (bf je.2))) fN))) (ae (bJ (ho▸aw rfl (vY wL hD) (aa rfl af) (E8 wL hD))) (ae (bJ (GA (fU rfl rfl (k9 _ _ _)) (λu8=>fU rfl rfl (Qe _ _ _)))) (hr▸h)))
 by_cases q2:c.kind=2
 ·have hr:bE c cx=0::mb cx:=kR hi λz=>absurd (z.1.symm.trans q2) (by decide)
  have h3:(!decide (c.kind=3)||decide (cx=c.expect))=true:=by rw [q2];rfl
  rw [RU hi q2] at K
  cases cx with
  |none=>exact K so true (go true h3 (ae (eZ (ki rfl (bf q2)) (ae (cD (an rfl rfl rfl) aj) aj)) aj)) hD hr
  |some b=>
   refine aZ (y2 hD ho) λfj h1 h2=> ?_
   exact K fj true (go true h3 (ae (eZ (ki rfl (bf q2)) (ae (eZ (an rfl rfl rfl) (ae (Ph rfl rfl ((yn wL h1).trans (congrArg some Hz))) (ae (bJ rfl) aj))) aj)) aj)) h2 hr
 have k2:=λ{H:HP}=>ki (R:=R) (H:=H) (k:=17) (l:=oD lg ak H0.length (y7 f c 1 (ob cx) true)) rfl (aQ q2)
 by_cases q3:c.kind=3
 ·rw [Tp hi q3] at K
  by_cases qe:cx=c.expect
  ·rw [if_pos qe] at K
   exact wt (v:=c.value) hD Lx λfj h1 h2=>K fj true (go true (by rw [bf qe,Bool.or_true]) (ae (cD k2 (ae (eZ (gy rfl) (ae (bJ rfl) (ae (cD (cM (iz (ki rfl (aQ (by lia))))) (ae (sF rfl rfl rfl h1) aj)) aj))) aj)) aj)) h2 (kR hi λz=>z.2 qe)
  ·rw [if_neg qe] at K
   exact K so false (go false (by rw [aQ qe,bf q3];rfl) (ae (cD (ki rfl (aQ q2)) (ae (cD (gy rfl) aj) aj)) aj)) hD ((if_neg hi).trans (if_pos ⟨q3,qe⟩))
 have h3:(!decide (c.kind=3)||decide (cx=c.expect))=true:=by rw [aQ q3];rfl
 have hr:bE c cx=0::mb cx:=kR hi λz=>q3 z.1
 have eR:∀{v:By} {fj:SO},dm c cx=some (some v)->gJ P R RA (oD lg ak H0.length (y7 f c 2 (ob cx) true)) (rH H0 s so G)= .next (oD lg ak H0.length (y7 f c 2 (ob cx) true)) (rH H0 s fj G)->dP U2 fj (λx=>if x=c.key then some v else s.now x)->C:=λ{v fj} e h h2=>by
  rw [e] at K
  exact K fj true (go true h3 (ae (cD k2 (ae (eZ (gy rfl) (ae (bJ rfl) (ae h aj))) aj)) aj)) h2 hr
 by_cases q1:c.kind=1
 ·exact wt (v:=c.value) hD Lx λfj h1 h2=>eR (R7 hi q1) (cD (cM (iz (ki rfl (aQ (by lia))))) (ae (sF rfl rfl rfl h1) aj)) h2
 have q4:c.kind=4:=by lia
 have QT:=S8 (cx:=cx) hi q1 q2 q3
 cases cx with
 |none=>exact wt (v:=c.value) hD Lx λfj h1 h2=>eR QT (cD (cM (dM (ki rfl (bf q4)) (iz (an rfl rfl rfl)))) (ae (sF rfl rfl rfl h1) aj)) h2
 |some b=>
  have hb:=hn b rfl
  have eb:cF .add (.bytes b) (.bytes c.value) (rH H0 s so G)= .ok (.bytes (b++c.value)) (rH H0 s so G):=if_pos (by show b.length+c.value.length<=4096;lia)
  exact wt (v:=b++c.value) hD Lx λfj h1 h2=>eR QT (eZ (cM (dM (ki rfl (bf q4)) (dM (an rfl rfl rfl) fN))) (ae (sF (aJ rfl rfl eb) rfl rfl h1) aj)) h2
end
structure lX (ak:List bg):Prop where
 ok:∀a∈ak,a.c.Ok/\a.c.kind<=6/\(a.c.key= []∨a.c.key= [107])/\a.c.value.length=1/\a.c.d7=cl a.dD
structure ga (ak:List bg)(s:RS)(n:Nat):Prop where
 r:s.fB.length<=n
 c:s.ec.length<=n
 t:s.told.length<=n
 st:s.since.length=s.told.length
 d:∀w,(s.done w).length<=n
 dk:∀w k,k∈s.done w->k<ak.length
 nw:∀k b,s.now k=some b->b.length<=n
 tl:∀b∈s.told,b.length<=n+3
noncomputable def q7 (ak:List bg)(s:RS)(one:Option Nat):Prop:=∀k,one=some k->k<ak.length/\k<=s.told.length
noncomputable def qo (n:Nat)(w:Bool):Nat:=if w then n+4 else n+3
section
variable {H H0 G:HP}{s:RS}{so:SO}{lg fQ r k:Nat}{vs:List SV}{v:SV}{ak:List bg}
theorem yY (hr:H[r]? =some (qD vs)):bU .isIn (.int k) (.ref r) H=some (decide (k<vs.length)):=by
 show (match H[r]? with|some o=>(hZ (.int k) o).map (λz=>Option.isSome z)|none=>none)=_
 rw [hr]
 dsimp only
 rw [Bw]
 show some (vs[k]?.isSome)=_
 by_cases q:k<vs.length
 ·rw [eV q,bf q];rfl
 ·rw [List.getElem?_eq_none (Nat.not_lt.mp q),aQ q];rfl
theorem vP (hr:H[r]? =some (qD vs))(hv:vs[k]? =some v):dH (.ref r) (.int k) H= .ok v H:=by
 unfold dH
 dsimp only
 rw [hr]
 cases vs with
 |nil=>cases hv
 |cons u t=>
  have:=Bw (u::t) k
  rw [hv] at this
  show (match hZ (.int k) (qD (u::t)) with|some (some v)=>du.ok v H|_=> .bad)=_
  rw [this]
theorem md (hr:H[r]? =some (.list (ak.map bg.sv)))(hk:k<ak.length):dH (.ref r) (.int k) H= .ok (ak.getD k dA).sv H:=by
 refine gG hr ?_
 rw [iW,List.getD_eq_getElem?_getD,eV hk];rfl
theorem j9 (w:Bool){n:Nat}(hr:H[r]? =some (.list [.ref (n+3), .ref (n+4)])):dH (.ref r) (.int (wi w)) H= .ok (.ref (qo n w)) H:=by
 cases w with
 |false=>exact gG (k:=0) hr rfl
 |true=>exact gG (k:=1) hr rfl
theorem pF (w:Bool):(rH H0 s so G)[qo H0.length w]? =some (.list (dn (s.done w))):=by
 cases w with
 |false=>exact CO (k:=3) rfl
 |true=>exact CO (k:=4) rfl
theorem GZ (w:Bool){x:Nat}:(rH H0 s so G).set (qo H0.length w) (.list (dn (s.done w++ [x])))=rH H0 (s.Eh w x) so G:=by
 cases w with
 |false=>exact zR (k:=3) (show 3<8 by decide)
 |true=>exact zR (k:=4) (show 4<8 by decide)
theorem A6:(rH H0 s so G)[H0.length+5]? =some (.list [.ref (H0.length+3), .ref (H0.length+4)]):=CO rfl
theorem r6:(rH H0 s so G)[H0.length+6]? =some (qD (s.told.map .bytes)):=CO rfl
theorem xC:(rH H0 s so G)[H0.length+7]? =some (qD (dn s.since)):=CO rfl
theorem sk:Gr H0 (rH H0 s so G):=⟨_,rfl⟩
theorem jB:(dn l).length=l.length:=bI _
theorem mX {x:Nat}:dn l++ [.int (x:Nat)]=dn (l++ [x]):=by unfold dn;rw [eG];rfl
noncomputable def nJ:cA:=tD (cK (bx 6 Rw))
theorem oO {α β:Type}{f:α->β}{l:List α}{x:α}:l.map f++ [f x]=(l++ [x]).map f:=(eG (l₁:=l) (l₂:= [x])).symm
theorem uS {R:au}{rp:Option By}{c:Int}(h2:l[2]? =some (some (.ref H0.length)))(h3:l[3]? =some (some (.ref (H0.length+1))))(I6:l[13]? =some (some (ob rp)))(La:l[14]? =some (some (.int c)))(hr:s.fB.length<60)(hc:s.ec.length<60):
  aK P R (bx 3 nJ) l (rH H0 s so G)= .next l (rH H0 (s.note rp c) so G):=by
 have a2:(rH H0 s so G)[H0.length]? =some (.list (s.fB.map ob)):=CO (k:=0) rfl
 have e2:=jO (R:=R) (v:=ob rp) a2 (by rw [bI];exact dR hr (by decide))
 rw [oO (f:=ob),show (rH H0 s so G).set H0.length (.list ((s.fB++ [rp]).map ob))=rH H0 {s with fB:=s.fB++ [rp]} so G from zR (k:=0) (show 0<8 by decide)] at e2
 have a3:(rH H0 {s with fB:=s.fB++ [rp]} so G)[H0.length+1]? =some (.list (s.ec.map .int)):=CO (k:=1) rfl
 have e3:=jO (R:=R) (v:= .int c) a3 (by rw [bI];exact dR hc (by decide))
 rw [oO (f:=SV.int),show (rH H0 {s with fB:=s.fB++ [rp]} so G).set (H0.length+1) (.list ((s.ec++ [c]).map .int))=rH H0 (s.note rp c) so G from zR (k:=1) (show 1<8 by decide)] at e3
 exact ae (bX (aw (bc h2) (bN a2) (aa (bc I6) af) e2)) (ae (bX (aw (bc h3) (bN a3) (aa (bc La) af) e3)) aj)
theorem vn {R:au}(h6:l[6]? =some (some (.ref (H0.length+6))))(h7:l[7]? =some (some (.ref (H0.length+7))))(C4:l[11]? =some (some (.int (s.told.length:Nat))))(I6:l[13]? =some (some (.bytes rp)))(Pt:l[21]? =some (some (.ref (qo H0.length w))))
  (hs:s.since.length=s.told.length) (ht:s.told.length<60):
  aK P R (bx 3 (nN (cK (kJ (cK (bx 2 nJ)))))) l (rH H0 s so G)= .next l (rH H0 (s.tell rp (s.done w).length) so G):=by
 have p6:=A5 (s.told.map SV.bytes) (.bytes rp) (by rw [bI];exact dR ht (by decide))
 rw [bI] at p6
 have e6:=ph (k:= .int s.told.length) (r6 (H0:=H0) (s:=s) (so:=so) (G:=G)) p6
 rw [oO (f:=SV.bytes),show (rH H0 s so G).set (H0.length+6) (qD ((s.told++ [rp]).map .bytes))=rH H0 {s with told:=s.told++ [rp]} so G from zR (show 6<8 by decide)] at e6
 have p7:=A5 (dn s.since) (.int ((s.done w).length:Nat)) (by rw [jB,hs];exact dR ht (by decide))
 rw [jB,hs] at p7
 have e7:=ph (k:= .int s.told.length) (xC (H0:=H0) (s:={s with told:=s.told++ [rp]}) (so:=so) (G:=G)) p7
 rw [mX,show (rH H0 {s with told:=s.told++ [rp]} so G).set (H0.length+7) (qD (dn (s.since++ [(s.done w).length])))=rH H0 (s.tell rp (s.done w).length) so G from zR (show 7<8 by decide)] at e7
 have hl:=ca (pF (H0:=H0) (s:={s with told:=s.told++ [rp]}) (so:=so) (G:=G) w)
 rw [jB] at hl
 exact ae (sF (bc I6) (bc h6) (bc C4) e6) (ae (sF (bu (aa (bc Pt) af) hl) (bc h7) (bc C4) e7) aj)
end
theorem P0 {α:Type}{n:Nat}{j:List α}(h:j.length=n+1):∃a t,j=a::t/\t.length=n:=by
 cases j with
 |nil=>exact Og h
 |cons a t=>exact ⟨a,t,rfl,Nat.succ.inj h⟩
noncomputable def LQ:cA:=nN (cK (kJ (cK (bx 2 nJ))))
noncomputable def my (f:Nat->Option SV)(k:Int)(rp:SV)(c:Int):Nat->Option SV
 |11=>some (.int k)
 |13=>some rp
 |14=>some (.int c)
 |k=>f k
section
variable {H0 G:HP}{s:RS}{so:SO}{lg fQ k n:Nat}{ak:List bg}
theorem CF (hA:H0[fQ]? =some (.list (ak.map bg.sv)))(hk:k<ak.length)(ht:k<s.told.length)(hs:s.since.length=s.told.length)(f:Nat->Option SV)(R:au):
  gJ P R (cK (bx 2 nJ)) (oD lg fQ H0.length (my f k .none 1)) (rH H0 s so G)=
   .next (oD lg fQ H0.length (my f k (.bytes (if s.since.getD k 0<(s.done (ak.getD k dA).dD).length then [3,0] else s.told.getD k [])) 1)) (rH H0 s so G):=by
 have v6:(s.told.map SV.bytes)[k]? =some (.bytes (s.told.getD k [])):=by
  rw [iW,List.getD_eq_getElem?_getD,eV ht];rfl
 have v7:(dn s.since)[k]? =some (.int (s.since.getD k 0:Nat)):=by
  unfold dn
  rw [iW,List.getD_eq_getElem?_getD,eV (hs▸ht)];rfl
 have yP:=yY (k:=k) (r6 (H0:=H0) (s:=s) (so:=so) (G:=G))
 rw [bI,bf ht] at yP
 have hl:=ca (pF (s:=s) (so:=so) (G:=G) (H0:=H0) (ak.getD k dA).dD)
 rw [jB] at hl
 have go:∀(q:Bool),decide (s.since.getD k 0<(s.done (ak.getD k dA).dD).length)=q->
   gK P R (.cmp .gt (.bH .len (.cons (.sub (.loc 5) (.sub (.sub (.loc 1) (.loc 11)) (.int 0))) .nil)) (.sub (.loc 7) (.loc 11))) (oD lg fQ H0.length (my f k (.bytes (s.told.getD k [])) 1)) (rH H0 s so G)= .ok q (rH H0 s so G):=λq hq=>
  an (bu (aa (aN rfl (aN (aN rfl rfl (md (sk.at hA) hk)) rfl (o:= .ok (.int (wi (ak.getD k dA).dD)) _) rfl) (j9 _ A6)) af) hl) (aN rfl rfl (vP xC v7)) (jG (hq▸decide_eq_decide.mpr Int.ofNat_lt))
 refine eZ (cM (dM (an rfl rfl (qE (bf (fD k)))) (dM (an rfl rfl yP) fN))) (ae (bJ (aN rfl rfl (vP r6 v6))) ?_)
 by_cases q:s.since.getD k 0<(s.done (ak.getD k dA).dD).length
 ·rw [if_pos q]
  exact ae (eZ (go true (bf q)) (ae (bJ rfl) aj)) aj
 ·rw [if_neg q]
  exact ae (cD (go false (aQ q)) aj) aj
theorem CX {y:Nat}:iw ak (ys++ [y])=decide ((ak.getD y dA).c.kind=6):=by
 unfold iw
 rw [List.getLast?_append];rfl
theorem BD (hA:H0[fQ]? =some (.list (ak.map bg.sv)))(a:bg)(hd:∀x∈s.done a.dD,x<ak.length){R:au}(h1:l[1]? =some (some (.ref fQ)))(Pt:l[21]? =some (some (.ref (qo H0.length a.dD))))(Ni:l[17]? =some (some (.int a.c.kind))):
  gK P R (.and (.cons (.cmp .ne (.loc 17) (.int 5)) (.cons (.or (.cons (.cmp .eq (.bH .len (.cons (.loc 21) .nil)) (.int 0)) (.cons (.cmp .eq (.sub (.sub (.loc 1) (.sub (.loc 21) (.neg (.int 1)))) (.int 2)) (.int 6)) .nil))) .nil))) l (rH H0 s so G)= .ok (!decide (a.c.kind=5)&&iw ak (s.done a.dD)) (rH H0 s so G):=by
 have Ri:=pF (s:=s) (so:=so) (G:=G) (H0:=H0) a.dD
 have hl:=ca Ri
 rw [jB] at hl
 refine Hu (an (bc Ni) rfl (k9 _ _ _)) λu8=> ?_
 rcases List.eq_nil_or_concat (s.done a.dD) with z|⟨ys,y,z⟩
 ·rw [z] at hl⊢
  exact fC (jX (ic (bu (aa (bc Pt) af) hl) rfl))
 ·rw [List.concat_eq_append] at z
  have hy:=hd y (by rw [z];simp)
  rw [z] at hl Ri⊢
  rw [<-mX] at Ri
  rw [CX]
  exact Qc (p:=false) (ic (bu (aa (bc Pt) af) hl) (aQ λz=>nomatch (aL (as:=ys) (bs:= [y])).symm.trans (Int.ofNat.inj z))) λu8=>
   ic (aN (aN (bc h1) (aN (bc Pt) rfl (el Ri)) (md (sk.at hA) hy)) rfl (o:= .ok (.int (ak.getD y dA).c.kind) _) rfl) rfl
end
theorem Er {R:au}{q:Bool}(h:gK P R c l H= .ok q H)(ha:q=true->bj P R a l H= .ok v H)(hb:q=false->bj P R b l H= .ok v H):bj P R (.ite c a b) l H= .ok v H:=by
 show (gK P R c l H).bind _=_
 rw [h]
 cases q with
 |true=>exact ha rfl
 |false=>exact hb rfl
noncomputable def z5 (f:Nat->Option SV)(a:bg)(r:Nat):Nat->Option SV
 |15=>some (.int (wi a.dD))
 |16=>some (.int a.c.number)
 |17=>some (.int a.c.kind)
 |18=>some (.bytes a.c.key)
 |19=>some (.bytes a.c.value)
 |20=>some (ob a.c.expect)
 |21=>some (.ref r)
 |k=>f k
section
variable {H0 G:HP}{s:RS}{so:SO}{lg fQ n:Nat}{ak:List bg}{d:Nat}
theorem sW (hA:H0[fQ]? =some (.list (ak.map bg.sv)))(hk:s.told.length<ak.length)(f:Nat->Option SV)(R:au)
  (h:aK P R (bx 2 LQ) (oD lg fQ H0.length (my (z5 f (ak.getD s.told.length dA) (qo H0.length (ak.getD s.told.length dA).dD)) (s.told.length:Nat) .none 1)) (rH H0 s so G)= .next l' H'):
  gJ P R (cK (bx 2 nJ)) (oD lg fQ H0.length (my f (s.told.length:Nat) .none 1)) (rH H0 s so G)= .next l' H' :=by
 have yP:=yY (k:=s.told.length) (r6 (H0:=H0) (s:=s) (so:=so) (G:=G))
 rw [bI,aQ (Nat.lt_irrefl _)] at yP
 have c0:=qE (H:=rH H0 s so G) (bf (fD s.told.length))
 have e0:=md (sk.at hA) hk (H:=rH H0 s so G)
 generalize ak.getD s.told.length dA=a at*
 exact cD (cM (dM (an rfl rfl c0) (iz (an rfl rfl yP)))) (ae (eZ (an rfl rfl c0) (ae (lz (vs:= [.int (wi a.dD), .int a.c.number, .int a.c.kind, .bytes a.c.key, .bytes a.c.value,ob a.c.expect]) (aN rfl rfl e0) rfl)
  (ae (bJ (aN rfl rfl (j9 _ A6))) h))) aj)
theorem wy (hA:H0[fQ]? =some (.list (ak.map bg.sv)))(hk:s.told.length<ak.length)(hs:s.since.length=s.told.length)(hl:s.told.length<60)(hd:∀w,∀x∈s.done w,x<ak.length)(Ny:(!decide ((ak.getD s.told.length dA).c.kind=5)&&iw ak (s.done (ak.getD s.told.length dA).dD))=true)(f:Nat->Option SV)(R:au):
  gJ P R (cK (bx 2 nJ)) (oD lg fQ H0.length (my f (s.told.length:Nat) .none 1)) (rH H0 s so G)=
   .next (oD lg fQ H0.length (my (z5 f (ak.getD s.told.length dA) (qo H0.length (ak.getD s.told.length dA).dD)) (s.told.length:Nat) (.bytes [2,0]) 1)) (rH H0 (s.tell [2,0] (s.done (ak.getD s.told.length dA).dD).length) so G):=by
 have e1:=BD (s:=s) (so:=so) (G:=G) hA (ak.getD s.told.length dA) (hd _) (R:=R) (l:=oD lg fQ H0.length (my (z5 f (ak.getD s.told.length dA) (qo H0.length (ak.getD s.told.length dA).dD)) (s.told.length:Nat) .none 1)) rfl rfl rfl
 rw [Ny] at e1
 exact sW hA hk f R (ae (eZ e1 (ae (bJ rfl) aj)) (vn rfl rfl rfl rfl rfl hs hl))
theorem Ls {x:Int}(h:∀b,o=some b->b.length<200):cF .add (.bytes [x]) (.bytes (mb o)) H= .ok (.bytes (x::mb o)) H:=if_pos (by
 have:=HE (o:=o) (n:=200) λb hb=>Nat.le_of_lt (h b hb)
 show 1+(mb o).length<=4096
 lia)
theorem M5 {r:Bool}:lJ [if r then 0 else 1]=true:=by cases r<;>rfl
theorem Ee {nv:Option (Option By)}:cF .add (.int (if nv.isSome then 2 else 1)) (.int 1) H= .ok (.int (if nv.isSome then 3 else 2)) H:=by cases nv<;>rfl
theorem Gx {k:Nat}:(s.Eh w k).done w=s.done w++ [k]:=if_pos rfl
theorem Cd (hA:H0[fQ]? =some (.list (ak.map bg.sv)))(hk:s.told.length<ak.length)(hs:s.since.length=s.told.length)(hl:s.told.length<60)(hd:∀w,∀x∈s.done w,x<ak.length)(Nr:∀w,(s.done w).length<60)(ha:ak.getD s.told.length dA=a)(Ny:(!decide (a.c.kind=5)&&iw ak (s.done a.dD))=false)
  (hD:dP U2 so s.now) (k0:0<=a.c.kind) (k6:a.c.kind<=6) (ui:a.c.key= []∨a.c.key= [107]) (hv:a.c.value.length=1) (hn:∀b,s.now a.c.key=some b->b.length<=90) (f:Nat->Option SV) (d:Nat) {C:Prop}
  (K:∀fj G' f',gJ P (run P (d+1)) (cK (bx 2 nJ)) (oD lg fQ H0.length (my f (s.told.length:Nat) .none 1)) (rH H0 s so G)= .next (oD lg fQ H0.length (my f' (s.told.length:Nat) (.bytes (bE a.c (s.now a.c.key))) (if (dm a.c (s.now a.c.key)).isSome then 3 else 2))) (rH H0 (((s.ze a.c).Eh a.dD s.told.length).tell (bE a.c (s.now a.c.key)) ((s.done a.dD).length+1)) fj G')->dP U2 fj (s.ze a.c).now->C):C:=by
 have e1:=BD (s:=s) (so:=so) (G:=G) hA a (hd _) (R:=run P (d+1)) (l:=oD lg fQ H0.length (my (z5 f a (qo H0.length a.dD)) (s.told.length:Nat) .none 1)) rfl rfl rfl
 rw [Ny] at e1
 have rf:=λ{l' H'}=>sW (s:=s) (so:=so) (G:=G) (lg:=lg) hA hk f (run P (d+1)) (l' :=l') (H' :=H')
 rw [ha] at rf
 refine Fx (H0:=H0) (G:=G) (lg:=lg) (ak:=fQ) (R:=run P (d+1)) (c:=a.c) hD k0 k6 ui hv hn (my (z5 f a (qo H0.length a.dD)) (s.told.length:Nat) .none 1) λfj right e2 d2 r2=> ?_
 have ho:∀b,(if idle a.c then none else s.now a.c.key)=some b->b.length<200:=λb hb=>by
  split at hb
  ·exact nh hb
  ·exact fJ (hn b hb) (by decide)
 generalize (if idle a.c then none else s.now a.c.key)=cx at*
 generalize bE a.c (s.now a.c.key)=rep at*
 generalize dm a.c (s.now a.c.key)=nv at*
 have TW:(s.ze a.c).told=s.told:=rfl
 have V8:(s.ze a.c).since=s.since:=rfl
 have VE:(s.ze a.c).done=s.done:=rfl
 generalize s.ze a.c=s1 at*
 obtain ⟨H3,e3,G3,g3⟩:=B0 ho d (rH H0 s1 fj G++ [SO.list [.int (if right then 0 else 1)]])
 have g4:H3=rH H0 s1 fj (G++([SO.list [.int (if right then 0 else 1)]]++G3)):=by
  rw [g3,rH,rH,bZ,RD]
 rw [g4] at e3
 generalize G++([SO.list [.int (if right then 0 else 1)]]++G3)=G' at*
 have ad:=pF (s:=s1) (so:=fj) (G:=G') (H0:=H0) a.dD
 have e6:=jO (R:=run P (d+1)) (v:= .int (s.told.length:Nat)) ad (by rw [jB,VE];exact dR (Nr _) (by decide))
 rw [mX,GZ] at e6
 have xW:=cJ (H:=rH H0 s1 fj G++ [SO.list [.int (if right then 0 else 1)]]) (dU ..) (is:= [if right then 0 else 1]) rfl M5
 have e7:=vn (R:=run P (d+1)) (s:=s1.Eh a.dD s.told.length) (so:=fj) (G:=G') (H0:=H0) (rp:=rep) (w:=a.dD)
  (l:=oD lg fQ H0.length (my (z5 (fr (oD lg fQ H0.length (y7 (my (z5 f a (qo H0.length a.dD)) (s.told.length:Nat) .none 1) a.c (if nv.isSome then 2 else 1) (ob cx) right))) a (qo H0.length a.dD)) (s.told.length:Nat) (.bytes rep) (if nv.isSome then 3 else 2))) rfl rfl (congrArg (λt:List By=>some (some (SV.int (t.length:Nat)))) TW.symm) rfl rfl (show s1.since.length=s1.told.length by rw [V8,TW];exact hs) (show s1.told.length<60 by rw [TW];exact hl)
 rw [Gx,aL,VE] at e7
 exact K fj G' _ (nc (λf' =>oD lg fQ H0.length (my f' (s.told.length:Nat) (.bytes rep) (if nv.isSome then 3 else 2))) (rf (ae (cD e1 (ae (bJ rfl) (ae (bJ rfl) (ae e2 (ae (bJ (aJ (bu (aa (bG (aa (Er (gy (q:=right) rfl) (λz=>by rw [z];rfl) (λz=>by rw [z];rfl)) af)) af) xW) (cz (aa rfl af) e3) (r2▸Ls ho)))
  (ae (bX (aw rfl (bN ad) (aa rfl af) e6)) (ae (su (a:=if nv.isSome then 2 else 1) (c:=1) (v:= .int (if nv.isSome then 3 else 2)) rfl rfl Ee) aj))))))) e7)) rfl) d2
end
theorem jS {ak:List bg}{k:Nat}(h:k<ak.length):ak.getD k dA∈ak:=by
 rw [List.getD_eq_getElem?_getD,eV h]
 exact List.getElem_mem h
set_option tactic.hygienic true in
theorem JN {n:Nat}(hf:∀x b,f x=some b->b.length<=n)(hv:∀b,v=some (some b)->b.length<=n+1):∀x b,Nh k v f x=some b->b.length<=n+1:=λx b h=>by
 unfold Nh at h
 split at h
 ·exact Nat.le_succ_of_le (hf x b h)
 ·rename_i v
  split at h
  ·exact hv b (by rw [h])
  ·exact Nat.le_succ_of_le (hf x b h)
theorem z0 {n:Nat}(hv:c.value.length=1)(h:∀b,cx=some b->b.length<=n):∀b,dm c cx=some (some b)->b.length<=n+1:=λb hb=>by
 unfold dm at hb
 split at hb
 ·exact nh hb
 split at hb
 ·cases hb;lia
 split at hb
 ·split at hb<;>cases hb
 split at hb
 ·split at hb
  ·cases hb;lia
  ·exact nh hb
 split at hb
 ·cases hb;lia
 ·cases hb
  rw [aL,hv]
  exact Nat.succ_le_succ (h _ rfl)
section
variable {ak:List bg}{s:RS}{n k:Nat}
theorem rJ (h:k<s.told.length):dz ak s (some k)=s.note (some (if s.since.getD k 0<(s.done (ak.getD k dA).dD).length then [3,0] else s.told.getD k [])) 1:=if_pos h
theorem wB (h:¬k<s.told.length)(h2:(!decide ((ak.getD k dA).c.kind=5)&&iw ak (s.done (ak.getD k dA).dD))=true):dz ak s (some k)=(s.tell [2,0] (s.done (ak.getD k dA).dD).length).note (some [2,0]) 1:=(if_neg h).trans (if_pos h2)
theorem r5 (h:¬k<s.told.length)(h2:¬(!decide ((ak.getD k dA).c.kind=5)&&iw ak (s.done (ak.getD k dA).dD))=true):dz ak s (some k)=(((s.ze (ak.getD k dA).c).Eh (ak.getD k dA).dD k).tell (bE (ak.getD k dA).c (s.now (ak.getD k dA).c.key)) ((s.done (ak.getD k dA).dD).length+1)).note (some (bE (ak.getD k dA).c (s.now (ak.getD k dA).c.key))) (if (dm (ak.getD k dA).c (s.now (ak.getD k dA).c.key)).isSome then 3 else 2):=(if_neg h).trans (if_neg h2)
theorem rN {α:Type}{l:List α}{x:α}(h:l.length<=n):(l++ [x]).length<=n+1:=by
 rw [aL];exact Nat.succ_le_succ h
theorem ga.more (h:ga ak s n):ga ak s (n+1):=⟨Nat.le_succ_of_le h.r,Nat.le_succ_of_le h.c,Nat.le_succ_of_le h.t,h.st,λw=>Nat.le_succ_of_le (h.d w),h.dk,λk b q=>Nat.le_succ_of_le (h.nw k b q),λb q=>Nat.le_succ_of_le (h.tl b q)⟩
theorem ga.note (h:ga ak s (n+1))(hr:s.fB.length<=n)(hc:s.ec.length<=n){r:Option By}{c:Int}:ga ak (s.note r c) (n+1):=⟨rN hr,rN hc,h.t,h.st,h.d,h.dk,h.nw,h.tl⟩
theorem ga.tell (h:ga ak s (n+1))(ht:s.told.length<=n){m:Nat}(hb:b.length<=n+1+3):ga ak (s.tell b m) (n+1):=⟨h.r,h.c,rN ht,(aL (as:=s.since)).trans ((congrArg (·+1) h.st).trans (aL (as:=s.told) (bs:= [b])).symm),h.d,h.dk,h.nw,λx hx=>(gf hx).elim (h.tl x) λq=>eF q▸hb⟩
theorem ga.ze (h:ga ak s n){c:iX}(hv:c.value.length=1):ga ak (s.ze c) (n+1):=
 have m:=h.more
 ⟨m.r,m.c,m.t,m.st,m.d,m.dk,JN h.nw (z0 hv λb hb=>h.nw _ b hb),m.tl⟩
theorem ga.Eh (h:ga ak s (n+1))(hd:∀w,(s.done w).length<=n)(hk:k<ak.length):ga ak (s.Eh w k) (n+1):=
 ⟨h.r,h.c,h.t,h.st,λu=>by
  show (if u=w then s.done u++ [k] else s.done u).length<=_
  split
  ·exact rN (hd u)
  ·exact h.d u,λu x (hx:x∈if u=w then s.done u++ [k] else s.done u)=>by
  split at hx
  ·exact (gf hx).elim (h.dk u x) λq=>eF q▸hk
  ·exact h.dk u x hx,h.nw,h.tl⟩
theorem EB (hs:ga ak s n)(mf:lX ak){one:Option Nat}(ho:q7 ak s one):ga ak (dz ak s one) (n+1):=by
 cases one with
 |none=>exact hs.more.note hs.r hs.c
 |some k=>
  obtain ⟨hk,ht⟩:=ho k rfl
  refine Tx (mf.ok _ (jS hk)) λu8 h6 ui hv u8=> ?_
  by_cases q:k<s.told.length
  ·rw [rJ q]
   exact hs.more.note hs.r hs.c
  by_cases z:(!decide ((ak.getD k dA).c.kind=5)&&iw ak (s.done (ak.getD k dA).dD))=true
  ·rw [wB q z]
   exact (hs.more.tell hs.t (cy (by decide:2<=3) (Nat.le_add_left 3 _))).note hs.r hs.c
  ·rw [r5 q z]
   exact (((hs.ze hv).Eh hs.d hk).tell hs.t (Nat.le_succ_of_le (oT λb hb=>hs.nw _ b hb))).note hs.r hs.c
end
noncomputable def n8 (ak:List bg):RS->List bo->Prop
 |_, []=>True
 |s,e::r=>q7 ak s e.one/\n8 ak (dz ak s e.one) r
section
variable {H0 G:HP}{s:RS}{so:SO}{lg fQ n:Nat}{ak:List bg}
theorem F9 (hs:ga ak s n)(hn:n<50)(mf:lX ak){e:bo}(ho:q7 ak s e.one)(hA:H0[fQ]? =some (.list (ak.map bg.sv)))(hD:dP U2 so s.now)(f:Nat->Option SV)(d:Nat){C:Prop}
  (K:∀fj G' f',aK P (run P (d+1)) nJ (dJ (oD lg fQ H0.length f) [8,9,10,11,12] [.int e.term, .int e.mem,e.er, .int (Dj e.one),e.cr]) (rH H0 s so G)= .next (oD lg fQ H0.length f') (rH H0 (dz ak s e.one) fj G')->dP U2 fj (dz ak s e.one).now->C):C:=by
 have Ip:s.fB.length<60:=fJ hs.r (dR hn (by decide))
 have Km:s.ec.length<60:=fJ hs.c (dR hn (by decide))
 obtain ⟨term,mem,er,one,cr⟩:=e
 dsimp only at ho K
 cases one with
 |none=>
  have c0:bU .ge (.int (-1)) (.int 0) (rH H0 s so G)=some false:=rfl
  exact K so G _ (nc (oD lg fQ H0.length) (ae (bJ rfl) (ae (bJ rfl) (ae (cD (cM (iz (an rfl rfl c0))) (ae (cD (an rfl rfl c0) aj) aj)) (uS (rp:=none) (c:=1) rfl rfl rfl rfl Ip Km)))) rfl) hD
 |some k=>
  obtain ⟨hk,hle⟩:=ho k rfl
  have go:∀{fj:SO} {G' :HP} {f' :Nat->Option SV} {rp:By} {c:Int} {s' :RS},gJ P (run P (d+1)) (cK (bx 2 nJ)) (oD lg fQ H0.length (my (fr (dJ (oD lg fQ H0.length f) [8,9,10,11,12] [.int term, .int mem,er, .int k,cr])) k .none 1)) (rH H0 s so G)= .next (oD lg fQ H0.length (my f' k (.bytes rp) c)) (rH H0 s' fj G')->s'.fB.length<60->s'.ec.length<60->dz ak s (some k)=s'.note (some rp) c->dP U2 fj s'.now->C:=λ{fj G' f' rp c s'} h h1 h2 e hd=>
   K fj G' _ (nc (oD lg fQ H0.length) (ae (bJ rfl) (ae (bJ rfl) (ae h (e▸uS (rp:=some rp) (c:=c) rfl rfl rfl rfl h1 h2)))) rfl) (e▸hd)
  by_cases q:k<s.told.length
  ·exact go (CF hA hk q hs.st _ (run P (d+1))) Ip Km (rJ q) hD
  obtain rfl:k=s.told.length:=Nat.le_antisymm hle (Nat.le_of_not_lt q)
  have OB:s.told.length<60:=fJ hs.t (dR hn (by decide))
  by_cases z:(!decide ((ak.getD s.told.length dA).c.kind=5)&&iw ak (s.done (ak.getD s.told.length dA).dD))=true
  ·exact go (wy hA hk hs.st OB hs.dk z _ (run P (d+1))) Ip Km (wB q z) hD
  ·refine Tx (mf.ok _ (jS hk)) λKG h6 ui hv u8=> ?_
   exact Cd hA hk hs.st OB hs.dk (λw=>fJ (hs.d w) (dR hn (by decide))) rfl (Bool.eq_false_iff.mpr z) hD KG.k0 h6 ui hv (λb hb=>cy (hs.nw _ b hb) (cy (Nat.le_of_lt hn) (by decide))) _ d λfj G' f' e1 d1=>
    go e1 Ip Km (r5 q z) d1
theorem C9 (mf:lX ak)(hA:H0[fQ]? =some (.list (ak.map bg.sv))){log:List bo}(hL:H0[lg]? =some (.list (log.map bo.sv)))(d:Nat){C:Prop}(cU:List bo):∀(done:List bo) (s:RS) (so:SO) (G:HP) (f:Nat->Option SV) (n:Nat),log=done++cU->ga ak s n->n+cU.length<50->n8 ak s cU->dP U2 so s.now->
  (∀fj G' f',forLoop [8,9,10,11,12] (λl H=>aK P (run P (d+1)) nJ l H) (.ref lg) (cU.length+1) done.length (oD lg fQ H0.length f) (rH H0 s so G)= .next (oD lg fQ H0.length f') (rH H0 (cE ak s cU) fj G')->dP U2 fj (cE ak s cU).now->C)->C:=by
 induction cU with
 |nil=>
  intro done s so G f n e hs hn hw hD K
  rw [ch] at e
  refine K so G f (jr ?_) hD
  rw [cT (sk.at hL),e,List.getElem?_eq_none (Nat.le_of_eq (bI _))]
 |cons x t ih=>
  intro done s so G f n e hs hn hw hD K
  have hn:n+(t.length+1)<50:=hn
  have hit:ct (.ref lg) done.length (rH H0 s so G)=some (some x.sv):=by
   rw [cT (sk.at hL),e,eG,eJ (Nat.le_of_eq (bI _)),bI,Nat.sub_self]
   rfl
  refine F9 (e:=x) (lg:=lg) (G:=G) hs (by lia) mf hw.1 hA hD f d λMm G1 f1 b2 b3=>ih (done++ [x]) (dz ak s x.one) Mm G1 f1 (n+1) (by rw [e,bZ];rfl) (EB hs mf hw.1) (by lia) hw.2 b3 λE1 G2 f2 c1 c2=> ?_
  rw [aL (as:=done)] at c1
  exact K E1 G2 f2 (fA hit rfl b2 c1) c2
theorem RM {R:au}{H L:HP}:bj P R (.list .nil) l (H++L)= .ok (.ref (H.length+L.length)) (H++(L++ [.list []])):=by
 rw [<-bZ,<-aL];rfl
theorem RV {R:au}{H L:HP}:bj P R .aM l (H++L)= .ok (.ref (H.length+L.length)) (H++(L++ [.aM])):=by
 rw [<-bZ,<-aL];rfl
theorem Sw {R:au}{H L L2:HP}(h:dK P R es l (H++L)= .ok vs (H++L2)):bj P R (.list es) l (H++L)= .ok (.ref (H.length+L2.length)) (H++(L2++ [.list vs])):=by
 rw [bG h,<-bZ,<-aL]
noncomputable def VH (n:Nat):SV:= .tuple [.ref n, .ref (n+1), .ref (n+2), .ref (n+5), .ref (n+6)]
structure JM (H:HP)(n:Nat)(s:RS)(so:SO):Prop where
 fB:H[n]? =some (.list (s.fB.map ob))
 ec:H[n+1]? =some (.list (iL s.ec))
 now:H[n+2]? =some so
 done:∀w,H[qo n w]? =some (.list (dn (s.done w)))
 lst:H[n+5]? =some (.list [.ref (n+3), .ref (n+4)])
 told:H[n+6]? =some (qD (s.told.map .bytes))
theorem QG:JM (rH H s so G) H.length s so:=⟨CO (k:=0) rfl,CO rfl,CO rfl,λw=>pF w,CO rfl,CO rfl⟩
theorem Hk:ga ak mT 0:=⟨bS _,bS _,bS _,rfl,λu8=>bS _,λu8 u8 h=>(j1 h),λu8 u8 h=>(nomatch h),λu8 h=>(j1 h)⟩
theorem px (mf:lX ak)(hA:H[fQ]? =some (.list (ak.map bg.sv)))(hL:H[lg]? =some (.list (log.map bo.sv)))(hw:n8 ak mT log)(hl:log.length<40)(d:Nat){C:Prop}
  (K:∀so H',run P (d+2) 99 [.ref lg, .ref fQ] H= .ok (VH H.length) H'->Gr H H'->JM H' H.length (cE ak mT log) so->dP U2 so (cE ak mT log).now->C):C:=by
 refine C9 mf hA hL d log [] mT .aM [] (λu8=>none) 0 rfl Hk (by lia) hw w9 λso G f h1 h2=> ?_
 have hN:fa (.ref lg) (rH H mT .aM [])=log.length:=(dY (sk.at hL)).trans (bI _)
 rw [<-hN] at h1
 exact K so _ (aE rfl rfl (ae (bJ (bG af)) (ae (bJ (RM (L:= [.list []]))) (ae (bJ (RV (L:= [.list [], .list []]))) (ae (bJ (Sw (L:= [.list [], .list [], .aM]) (aa RM (aa (RM (L:= [.list [], .list [], .aM, .list []])) af)))) (ae (bJ (RV (L:= [.list [], .list [], .aM, .list [], .list [], .list [.ref (H.length+3), .ref (H.length+4)]])))
  (ae (bJ (RV (L:= [.list [], .list [], .aM, .list [], .list [], .list [.ref (H.length+3), .ref (H.length+4)], .aM]))) (ae (f_ (v:= .ref lg) rfl h1) (aY (bK (db (aa rfl (aa rfl (aa rfl (aa rfl (aa rfl af)))))))))))))))) sk QG h2
end
noncomputable def kF (ak:List bg):Option Nat->rA
 |none=> .no
 |some k=> .cmd (ak.getD k dA).c (ak.getD k dA).dD
noncomputable def jo (ak:List bg)(s:RS)(w:Bool):kN:=match (s.done w).getLast? with
 |none=>none
 |some k=>some ((ak.getD k dA).c.number, !decide ((ak.getD k dA).c.kind=6),s.told.getD k [])
structure yZ (ak:List bg):Prop where
 up:∀i j,i<j->j<ak.length->(ak.getD i dA).dD=(ak.getD j dA).dD->(ak.getD i dA).c.number<(ak.getD j dA).c.number
noncomputable def TS (ak:List bg)(s:RS)(a:AS)(k:Nat):Prop:=
 (s.since.getD k 0<(s.done (ak.getD k dA).dD).length/\(ak.getD k dA).c.number<cG (a.S (ak.getD k dA).dD))∨
 (s.since.getD k 0=(s.done (ak.getD k dA).dD).length/\((s.done (ak.getD k dA).dD).getLast? =some k∨
  (cG (a.S (ak.getD k dA).dD)<(ak.getD k dA).c.number/\(ak.getD k dA).c.kind≠5/\cX (a.S (ak.getD k dA).dD)=false/\s.told.getD k []= [2,0])))
structure pL (ak:List bg)(s:RS)(a:AS):Prop where
 now:s.now=a.now
 S:∀w,a.S w=jo ak s w
 dw:∀w k,k∈s.done w->k<s.told.length/\(ak.getD k dA).dD=w
 ts:∀k,k<s.told.length->TS ak s a k
 len:s.since.length=s.told.length
theorem fS {α:Type}{l:List α}{x d:α}{k:Nat}(h:k<l.length):(l++ [x]).getD k d=l.getD k d:=by
 rw [List.getD_eq_getElem?_getD,List.getD_eq_getElem?_getD,iT h]
theorem l8 {α:Type}{l:List α}{x d:α}:(l++ [x]).getD l.length d=x:=by
 rw [List.getD_eq_getElem?_getD,dU];rfl
theorem kG {l:List Nat}{k:Nat}(h:l.getLast? =some k):k∈l:=List.mem_of_getLast? h
theorem vh {k:Nat}:(l++ [k]).getLast? =some k:=by rw [List.getLast?_append];rfl
noncomputable def pI (ak:List bg)(a:AS)(e:bo):AS:=Ge a (a.idx+1) e.term (dC (fP e.mem)) (kF ak e.one)
noncomputable def xb (ak:List bg)(a:AS)(e:bo):List Op:=mz a e.term (dC (fP e.mem)) (kF ak e.one)
section
variable {ak:List bg}{s:RS}{a:AS}{k:Nat}
theorem Ht (hf:i9 c (a.S w)=false):yc a (.cmd c w)=a.now/\Qi a (.cmd c w)=a.S/\jA a (.cmd c w)= []:=by
 unfold yc Qi jA kK
 dsimp only
 rw [hf]
 exact ⟨rfl,rfl,rfl⟩
theorem xw {S:kN}(h:c.number<cG S):i9 c S=false/\∀cx,f6 c S cx= [3,0]:=by
 refine ⟨?_,λcx=> ?_⟩
 ·unfold i9
  rw [bf h,Bool.true_or,Bool.or_true];rfl
 ·unfold f6
  rw [if_neg (by exact iN ‹_›),if_pos h];rfl
theorem GL {c:iX}{S:kN}(h:c.number=cG S):i9 c S=false/\∀cx,f6 c S cx=f0 S:=by
 refine ⟨?_,λcx=> ?_⟩
 ·unfold i9
  rw [bf h,Bool.true_or];rfl
 ·unfold f6
  rw [if_pos h]
theorem ox {S:kN}(h:cG S<c.number)(h2:(!cX S&& !decide (c.kind=5))=true):i9 c S=false/\∀cx,f6 c S cx= [2,0]:=by
 refine ⟨?_,λcx=> ?_⟩
 ·unfold i9
  rw [h2,Bool.or_true,Bool.or_true];rfl
 ·unfold f6
  rw [if_neg (by exact iO ‹_›),if_neg (by exact iP ‹_›),if_pos h2];rfl
theorem FT {S:kN}(h:cG S<c.number)(h2:(!cX S&& !decide (c.kind=5))=false):i9 c S=true/\∀cx,f6 c S cx=bE c cx:=by
 refine ⟨?_,λcx=> ?_⟩
 ·unfold i9
  rw [h2,aQ (by exact iO ‹_›),aQ (by exact iP ‹_›)];rfl
 ·unfold f6
  rw [if_neg (by exact iO ‹_›),if_neg (by exact iP ‹_›),if_neg (by rw [h2];decide)]
theorem IW (hs:pL ak s a)(hu:yZ ak)(mf:lX ak)(hk:k<ak.length)(ht:k=s.told.length):cG (a.S (ak.getD k dA).dD)<(ak.getD k dA).c.number:=by
 rw [hs.S]
 unfold jo
 cases q:(s.done (ak.getD k dA).dD).getLast? with
 |none=>
  show (-1:Int)<_
  have:=(mf.ok _ (jS hk)).1.n0
  assumption
 |some j=>
  obtain ⟨h1,h2⟩:=hs.dw _ _ (kG q)
  exact hu.up j k (by lia) hk h2
theorem Fs (hs:pL ak s a)(w:Bool):iw ak (s.done w)= !cX (a.S w):=by
 rw [hs.S]
 unfold iw jo
 cases q:(s.done w).getLast? with
 |none=>rfl
 |some j=>
  show _= !(!decide ((ak.getD j dA).c.kind=6))
  rw [Bool.not_not]
theorem TS.st (h:b.S=a.S)(q:TS ak s a k):TS ak s b k:=by
 unfold TS
 rw [h];exact q
theorem pL.st (hs:pL ak s a)(h1:b.now=a.now)(h2:b.S=a.S):pL ak s b:=⟨hs.now.trans h1.symm,λw=>h2▸hs.S w,hs.dw,λk hk=>(hs.ts k hk).st h2,hs.len⟩
theorem pL.note (hs:pL ak s a){c:Int}:pL ak (s.note r c) a:=⟨hs.now,hs.S,hs.dw,hs.ts,hs.len⟩
noncomputable def N4 (ak:List bg)(s:RS)(a:AS)(e:bo)(s' :RS):Prop:=pL ak s' (pI ak a e)/\s'.fB=s.fB++ [mA a (kF ak e.one)]/\s'.ec=s.ec++ [((xb ak a e).length:Int)]
theorem rG (he:e.one=some k)(hf:i9 (ak.getD k dA).c (a.S (ak.getD k dA).dD)=false)(hr:f6 (ak.getD k dA).c (a.S (ak.getD k dA).dD) (a.now (ak.getD k dA).c.key)=rp)(h:pL ak s1 a)(h1:s1.fB=s.fB)(h2:s1.ec=s.ec):N4 ak s a e (s1.note (some rp) 1):=by
 refine rB (Ht hf) λq1 q2 q3=> ?_
 unfold N4 pI xb mz
 rw [he]
 refine ⟨h.note.st q1 q2, ?_, ?_⟩
 ·show s1.fB++ [some rp]=_
  rw [h1,<-hr];rfl
 ·show s1.ec++ [1]=_
  rw [h2,show jA a (kF ak (some k))= [] from q3];rfl
theorem uK {x:By}{m:Nat}{w:Bool}(hs:∀k∈s.done w,k<s.told.length):jo ak (s.tell x m) w=jo ak s w:=by
 unfold jo
 show (match (s.done w).getLast? with|none=>none|some k=>some ((ak.getD k dA).c.number, !decide ((ak.getD k dA).c.kind=6),(s.told++ [x]).getD k []))=_
 cases z:(s.done w).getLast? with
 |none=>rfl
 |some j=>exact congrArg (λb=>some ((ak.getD j dA).c.number, !decide ((ak.getD j dA).c.kind=6),b)) (fS (hs j (kG z)))
theorem fY {α:Type}{l:List α}{x:α}:(l++ [x]).length=l.length+1:=aL
theorem pL.refuse (hs:pL ak s a)(uu:cG (a.S (ak.getD s.told.length dA).dD)<(ak.getD s.told.length dA).c.number)(h5:(ak.getD s.told.length dA).c.kind≠5)(ho:cX (a.S (ak.getD s.told.length dA).dD)=false):pL ak (s.tell [2,0] (s.done (ak.getD s.told.length dA).dD).length) a:=by
 refine ⟨hs.now,λw=>(hs.S w).trans (uK λk hk=>(hs.dw w k hk).1).symm,λw j hj=>⟨fY (l:=s.told)▸Nat.lt_succ_of_lt (hs.dw w j hj).1,(hs.dw w j hj).2⟩,λj hj=> ?_,fY.trans ((congrArg (·+1) hs.len).trans fY.symm)⟩
 by_cases y:j<s.told.length
 ·have:=hs.ts j y
  unfold TS at this⊢
  rw [<-fS (x:=(s.done (ak.getD s.told.length dA).dD).length) (show j<s.since.length from hs.len▸y),<-fS (x:= [2,0]) y] at this
  exact this
 ·have hj:j<s.told.length+1:=fY (l:=s.told)▸hj
  obtain rfl:j=s.told.length:=Nat.le_antisymm (Nat.le_of_lt_succ hj) (Nat.le_of_not_lt y)
  refine .inr ⟨?_, .inr ⟨uu,h5,ho,l8⟩⟩
  show (s.since++ [_]).getD s.told.length 0=_
  rw [<-hs.len]
  exact l8
set_option tactic.hygienic true in
theorem pL.RX (hs:pL ak s a)(hu:yZ ak)(hk:s.told.length<ak.length)(hc:ak.getD s.told.length dA=⟨u,c⟩){b:AS}(h1:b.now=Nh c.key (dm c (a.now c.key)) a.now)(h2:b.S=λx=>if x=u then some (pD c (a.now c.key)) else a.S x):
  pL ak (((s.ze c).Eh u s.told.length).tell (bE c (s.now c.key)) ((s.done u).length+1)) b:=by
 refine ⟨?_,λw=> ?_,λw j hj=> ?_,λj hj=> ?_,fY.trans ((congrArg (·+1) hs.len).trans fY.symm)⟩
 ·rw [h1,<-hs.now];rfl
 ·rw [h2]
  show (if w=u then _ else _)=_
  unfold jo
  show _=match (if w=u then s.done w++ [s.told.length] else s.done w).getLast? with|none=>none|some k=>some ((ak.getD k dA).c.number, !decide ((ak.getD k dA).c.kind=6),(s.told++ [bE c (s.now c.key)]).getD k [])
  by_cases y:w=u
  ·rw [if_pos y,if_pos y,vh]
   show _=some ((ak.getD s.told.length dA).c.number, !decide ((ak.getD s.told.length dA).c.kind=6),(s.told++ [bE c (s.now c.key)]).getD s.told.length [])
   rw [hc,l8,hs.now];rfl
  ·rw [if_neg y,if_neg y,hs.S]
   exact (uK (s:=s) (x:=bE c (s.now c.key)) (m:=0) λk hk=>(hs.dw w k hk).1).symm
 ·have hj:j∈if w=u then s.done w++ [s.told.length] else s.done w:=hj
  rw [show (((s.ze c).Eh u s.told.length).tell (bE c (s.now c.key)) ((s.done u).length+1)).told.length=s.told.length+1 from fY]
  have cx:j∈s.done w->j<s.told.length+1/\(ak.getD j dA).dD=w:=λh=>⟨Nat.lt_succ_of_lt (hs.dw w j h).1,(hs.dw w j h).2⟩
  split at hj
  ·rename_i y
   exact (gf hj).elim cx λq=>by rw [eF q];exact ⟨Nat.lt_succ_self _,(congrArg bg.dD hc).trans y.symm⟩
  ·exact cx hj
 ·have hj:j<s.told.length+1:=fY (l:=s.told)▸hj
  unfold TS
  rw [h2]
  show ((s.since++ [(s.done u).length+1]).getD j 0<(if (ak.getD j dA).dD=u then s.done (ak.getD j dA).dD++ [s.told.length] else s.done (ak.getD j dA).dD).length/\_<cG (if (ak.getD j dA).dD=u then _ else _))∨
   ((s.since++ [(s.done u).length+1]).getD j 0=(if (ak.getD j dA).dD=u then s.done (ak.getD j dA).dD++ [s.told.length] else s.done (ak.getD j dA).dD).length/\((if (ak.getD j dA).dD=u then s.done (ak.getD j dA).dD++ [s.told.length] else s.done (ak.getD j dA).dD).getLast? =some j∨
    (cG (if (ak.getD j dA).dD=u then _ else _)<_/\_/\cX (if (ak.getD j dA).dD=u then _ else _)=false/\(s.told++ [bE c (s.now c.key)]).getD j []= [2,0])))
  by_cases y:j<s.told.length
  ·rw [fS y,fS (hs.len▸y)]
   by_cases x:(ak.getD j dA).dD=u
   ·rw [if_pos x,if_pos x,fY]
    refine .inl ⟨?_, ?_⟩
    ·rcases hs.ts j y with ⟨t1,_⟩|⟨t1,_⟩
     ·exact Nat.lt_succ_of_lt t1
     ·rw [t1];exact Nat.lt_succ_self _
    ·have:=hu.up j s.told.length y hk (x.trans (by rw [hc]))
     rw [hc] at this
     exact this
   ·rw [if_neg x,if_neg x]
    exact hs.ts j y
  ·obtain rfl:j=s.told.length:=Nat.le_antisymm (Nat.le_of_lt_succ hj) (Nat.le_of_not_lt y)
   rw [if_pos (by rw [hc]),fY]
   refine .inr ⟨?_, .inl vh⟩
   rw [hc,<-hs.len,l8]
theorem Jn (hf:i9 c (a.S w)=true):((jA a (.cmd c w)++ [o]).length:Int)=if (dm c (a.now c.key)).isSome then 3 else 2:=by
 show ((kK _ _ _ _++_).length:Int)=_
 unfold kK
 rw [if_pos hf]
 cases dm c (a.now c.key) with
 |none=>rfl
 |some v=>cases v<;>rfl
theorem yr (hs:pL ak s a)(hu:yZ ak)(mf:lX ak)(ho:q7 ak s e.one):N4 ak s a e (dz ak s e.one):=by
 cases he:e.one with
 |none=>
  unfold N4 pI xb mz
  rw [he]
  exact ⟨hs.note.st rfl rfl,rfl,rfl⟩
 |some k=>
  obtain ⟨hk,hle⟩:=ho k he
  by_cases q:k<s.told.length
  ·rw [rJ q]
   rcases hs.ts k q with ⟨t1,t2⟩|⟨t1,t2|⟨t2,t3,t4,t5⟩⟩
   ·rw [if_pos t1]
    exact rG he (xw t2).1 ((xw t2).2 _) hs rfl rfl
   ·have hS:a.S (ak.getD k dA).dD=some ((ak.getD k dA).c.number, !decide ((ak.getD k dA).c.kind=6),s.told.getD k []):=by
     rw [hs.S]
     unfold jo
     rw [t2]
    have hf:=GL (c:=(ak.getD k dA).c) (S:=a.S (ak.getD k dA).dD) (by rw [hS];rfl)
    rw [if_neg (Nat.not_lt.mpr (Nat.le_of_eq t1.symm))]
    exact rG he hf.1 ((hf.2 _).trans (by rw [hS];rfl)) hs rfl rfl
   ·have hf:=ox t2 (by rw [t4,aQ t3];rfl)
    rw [if_neg (Nat.not_lt.mpr (Nat.le_of_eq t1.symm)),t5]
    exact rG he hf.1 (hf.2 _) hs rfl rfl
  obtain rfl:k=s.told.length:=Nat.le_antisymm hle (Nat.le_of_not_lt q)
  have uu:=IW hs hu mf hk rfl
  have Ny:=Fs hs (ak.getD s.told.length dA).dD
  by_cases z:(!decide ((ak.getD s.told.length dA).c.kind=5)&&iw ak (s.done (ak.getD s.told.length dA).dD))=true
  ·rw [wB q z]
   rw [Ny,Bool.and_comm] at z
   have z' :=jb z
   exact rG he (ox uu z).1 ((ox uu z).2 _) (hs.refuse uu (by simpa using z'.2) (by simpa using z'.1)) rfl rfl
  ·rw [r5 q z]
   rw [Ny,Bool.and_comm] at z
   obtain ⟨f1,f2⟩:=FT uu (Bool.eq_false_iff.mpr z)
   have d:=hs.RX hu hk (b:=pI ak a e) rfl (by
    unfold pI
    rw [he]
    exact if_pos f1) (by
    unfold pI
    rw [he]
    exact if_pos f1)
   unfold N4 xb mz
   rw [he]
   rw [hs.now] at d⊢
   refine ⟨d.note, ?_, ?_⟩
   ·show s.fB++ [_]=s.fB++ [some _]
    rw [f2]
   ·exact congrArg (λz=>s.ec++ [z]) (Jn f1).symm
end
noncomputable def Dp:Nat->SV->Prop
 |0,_=>False
 |n+1,v=>match v with
  | .none=>True
  | .bool _=>True
  | .int _=>True
  | .bytes _=>True
  | .tuple vs=>∀x∈vs,Dp n x
  |_=>False
theorem sU:∀{vs:List SV},(∀x∈vs,f x x=some true)->uD f vs vs=some true
 | [],_=>rfl
 |x::r,h=>by
  show (match f x x,uD f r r with|some a,some b=>some (a&&b)|_,_=>none)=_
  rw [h x (.head _),sU λy hy=>h y (.tail _ hy)]
  rfl
theorem oM:∀(n:Nat) (v:SV),Dp n v->ud n v v=some true
 |0,_,h=>h.elim
 |n+1,v,h=>by
  cases v with
  |none=>rfl
  |bool b=>exact congrArg some (iu b)
  |int i=>exact congrArg some (iu i)
  |bytes b=>exact congrArg some (iu b)
  |tuple vs=>exact sU λx hx=>oM n x (h x hx)
  |_=>exact h.elim
theorem rY {H:HP}(hr:∀i,v≠ .ref i)(h:Dp 6 v):bU .ne v v H=some false:=by
 have:=oM 6 v h
 cases v with
 |ref i=>exact absurd rfl (hr i)
 |_=>exact congrArg (λo:Option Bool=>o.map (λz=> !z)) this
theorem eq_self (hr:∀i,v≠ .ref i)(h:Dp 6 v):bU .eq v v H=some true:=by
 have:=oM 6 v h
 cases v with
 |ref i=>exact absurd rfl (hr i)
 |_=>exact this
theorem Gn {i j:Nat}(hi:H[i]? =some (.list vs))(hj:H[j]? =some (.list vs))(h:∀v∈vs,Dp 6 v):bU .ne (.ref i) (.ref j) H=some false:=by
 show (match H[i]?,H[j]? with
   |some (.list x),some (.list y)=>if x.length=y.length then (uD (ud AX) x y).map (λz=> !z) else some true
   |_,_=>none)=_
 rw [hi,hj]
 dsimp only
 rw [if_pos rfl,show uD (ud AX) vs vs=some true from sU λx hx=>oM 6 x (h x hx)]
 rfl
section
variable {α:Type}{enc f:α->SV}{p:α->Bool}{w:Nat}{k:EK}{t:Option (SE×SE)}{v:SV}{l:cR}{H:HP}{xs:List α}
theorem BF (hi:∀j,ct v j H=some ((xs.map enc)[j]?))(hx:∀x∈xs,∃cv,oS w (enc x)=some cv/\oU t l cv H=some (p x)/\(p x=true->MG k l cv H=some (f x))):
  ∀(cU done:List α),xs=done++cU->gD w k t v l H (cU.length+1) done.length=some ((cU.filter p).map f)
 | [],done,e=>by
  rw [ch] at e
  subst e
  show (match ct v xs.length H with|none=>none|some none=>some []|some (some y)=>_)=_
  rw [hi,List.getElem?_eq_none (by rw [bI];exact bS _)]
  rfl
 |x::r,done,e=>by
  obtain ⟨cv,h1,h2,h3⟩:=hx x (by rw [e];simp)
  have ih:=BF hi hx r (done++ [x]) (by rw [e,bZ];rfl)
  rw [aL (as:=done)] at ih
  have Ul:gD w k t v l H (r.length+1) (done.length+1)=some ((r.filter p).map f):=ih
  show (match ct v done.length H with
   |none=>none
   |some none=>some []
   |some (some y)=>(oS w y).bind λcv=>(oU t l cv H).bind λb=>(match b with
    |false=>gD w k t v l H (r.length+1) (done.length+1)
    |true=>(MG k l cv H).bind λx=>(gD w k t v l H (r.length+1) (done.length+1)).map (x:: ·)))=_
  have hit:(xs.map enc)[done.length]? =some (enc x):=by
   rw [e,eG,eJ (by rw [bI];exact bS _),bI,Nat.sub_self]
   rfl
  rw [hi,hit]
  dsimp only
  rw [h1]
  show (oU t l cv H).bind _=_
  rw [h2]
  show (match p x with|false=>_|true=>_)=_
  cases q:p x with
  |false=>
   dsimp only
   rw [Ul,List.filter_cons_of_neg (by rw [q];decide)]
  |true=>
   dsimp only
   rw [h3 q,Ul,List.filter_cons_of_pos q]
   rfl
theorem pd (hi:∀j,ct v j H=some ((xs.map enc)[j]?))(hn:fa v H=xs.length)(hb:ka v=false)(hx:∀x∈xs,∃cv,oS w (enc x)=some cv/\oU t l cv H=some (p x)/\(p x=true->MG k l cv H=some (f x)))(hl:xs.length<=4096):
  gu w k t v l H=some ((xs.filter p).map f):=by
 show (if ka v=true then none else (gD w k t v l H (fa v H+1) 0).bind λvs=>if vs.length<=big then some vs else none)=_
 rw [hb,if_neg (by decide),hn]
 have:=BF hi hx xs [] rfl
 rw [show ([]:List α).length=0 from rfl] at this
 rw [this]
 have hle:=List.length_filter_le p xs
 exact if_pos (by rw [bI];show _<=4096;exact cy ‹_› ‹_›)
theorem Eu {R:au}{i:Nat}(h:bj P R it l H= .ok v H1)(h2:gu w k t v l H1=some vs):gJ P R (.comp i w k t it) l H= .next (al l i (.ref H1.length)) (H1++ [SO.list vs]):=by
 show (bj P R it l H).then l _=_
 rw [h]
 show (match gu w k t v l H1 with|some vs=>cQ.next (al l i (.ref H1.length)) (H1++ [SO.list vs])|none=> .bad)=_
 rw [h2]
theorem I2 {R:au}{i r:Nat}(h0:l[i]? =some (some (.ref r)))(h:bj P R it l H= .ok v H1)(h2:gu w k none v l H1=some vs)(h3:H1[r]? =some (.list cx))(hl:cx.length+vs.length<=4096):gJ P R (.kU i w k it) l H= .next (al l i (.ref (H1.length+1))) ((H1++ [SO.list vs])++ [SO.list (cx++vs)]):=by
 show (match l[i]? with
  |some (some (.ref r))=>(bj P R it l H).then l λv H=>(match gu w k none v l H with
   |some vs=>(match H[r]? with
    |some (.list cx)=>if cx.length+vs.length<=big then cQ.next (al l i (.ref (H.length+1))) ((H++ [SO.list vs])++ [SO.list (cx++vs)]) else .bad
    |_=> .bad)
   |none=> .bad)
  |_=> .bad)=_
 rw [h0]
 show (bj P R it l H).then l _=_
 rw [h]
 show (match gu w k none v l H1 with
   |some vs=>(match H1[r]? with
    |some (.list cx)=>if cx.length+vs.length<=big then cQ.next (al l i (.ref (H1.length+1))) ((H1++ [SO.list vs])++ [SO.list (cx++vs)]) else .bad
    |_=> .bad)
   |none=> .bad)=_
 rw [h2]
 show (match H1[r]? with
    |some (.list cx)=>if cx.length+vs.length<=big then cQ.next (al l i (.ref (H1.length+1))) ((H1++ [SO.list vs])++ [SO.list (cx++vs)]) else .bad
    |_=> .bad)=_
 rw [h3]
 exact if_pos hl
end
theorem eB {r:Nat}(h:H[r]? =some (.list vs)):∀j,ct (.ref r) j H=some (vs[j]?):=λj=>cT h
theorem Gk {r:Nat}(h:H[r]? =some (.list (iL xs))):Mine.bH Bi.sum [.ref r] H= .ok (.int xs.sum) H:=by
 show (match H[r]? with
   |some (.list vs)=>(match bT vs with
    |some l=>du.ok (SV.int l.sum) H
    |none=> .bad)
   |_=> .bad)=_
 rw [h]
 dsimp only
 rw [qw]
theorem eK.ke {si di bi:Nat}{aU aW:Int}(h:eK H si di bi D bl aU aW)(g:Ke H H'):eK H' si di bi D bl aU aW:=
 ⟨g _ _ h.st,h.dd.imp λu8 z=>⟨g _ _ z.1,z.2⟩,g _ _ h.bb,λp hp=>⟨g _ _ (h.at_ p hp).1,(h.at_ p hp).2⟩⟩
theorem EM {p:Nat}{o:SO}(k:Ke H1 H)(h:H1.length<=p):Ke H1 (H.set p o):=λi x e=>by
 have:=(gw e).1
 exact (eN (by lia)).trans (k i x e)
theorem hM {a b c:By}(h:a.length+b.length<=4096)(e:a++b=c):cF .add (.bytes a) (.bytes b) H= .ok (.bytes c) H:=by
 rw [<-e]
 exact if_pos h
theorem oV {H:HP}{o:SO}{k:Nat}(hv:vs[k]? =some v):dH (.ref H.length) (.int k) (H++ [.list vs])= .ok v (H++ [.list vs]):=gG (dU ..) hv
noncomputable def M4:cA:=tD (cK (bx 6 Cv))
noncomputable def zI (a:AS)(w:Bool):List SV:=match a.S w with
 |none=> []
 |some s=> [o8 (w,s)]
noncomputable def Ay (a:AS)(w:Bool):List SV:=match a.S w with
 |none=> []
 |some s=> [pv (de w,fo s)]
theorem i5 {n:Nat}:Dp (n+1) (.tuple []):=λu8 hz=>j1 hz
theorem bO {n:Nat}(h:Dp n x)(h2:Dp (n+1) (.tuple xs)):Dp (n+1) (.tuple (x::xs)):=λy hy=>(cH hy).elim (λe=>e▸h) (h2 y)
theorem zP {α:Type}{n:Nat}{g:α->SV}{xs:List α}(h:∀x,Dp n (g x)):Dp (n+1) (.tuple (xs.map g)):=λz hz=>by
 refine aZ (gH hz) λx u8 dc=> ?_;subst dc
 exact h x
theorem G8 (s:kN):(∀i,uE s≠ .ref i)/\Dp 6 (uE s):=by
 unfold uE
 cases s with
 |none=>exact ⟨λu8 z=>(nomatch z),trivial⟩
 |some s=>
  dsimp only
  split
  ·exact ⟨λu8 z=>(nomatch z),bO trivial (bO trivial i5)⟩
  ·exact ⟨λu8 z=>(nomatch z),trivial⟩
structure Wq where
 si:Nat
 mi:Nat
 lg:Nat
 fQ:Nat
 n:Nat
noncomputable def xU (z:Wq)(f:Nat->Option SV):cR:= [some (.ref z.si),some (.ref z.mi),some (.ref z.lg),some (.ref z.fQ),some (.ref z.n),some (.ref (z.n+1)),some (.ref (z.n+2)),some (.ref (z.n+5)),some (.ref (z.n+6)),f 9,f 10,f 11,f 12,f 13,f 14,f 15,f 16,f 17,f 18,f 19,f 20]
noncomputable def DJ (f:Nat->Option SV)(cb:By)(r p q:Nat)(i:Option SV):Nat->Option SV
 |9=>some (.bytes cb)
 |11=>some (.ref r)
 |12=>some (.ref p)
 |13=>some (.ref q)
 |14=>i
 |k=>f k
section
variable {H1 H:HP}{z:Wq}{di bi p q r:Nat}{aU aW aO:Int}{sync:Bool}{bl:List (Nat×List Op)}{a:AS}{ak:List bg}{s:RS}{so:SO}{w:Bool}{d9 xj:List SV}
theorem Eg (hs:pL ak s a){st:Int×Bool×By}(h:a.S w=some st){C:Prop}(K:∀ys y,s.done w=ys++ [y]->y∈s.done w->st=((ak.getD y dA).c.number, !decide ((ak.getD y dA).c.kind=6),s.told.getD y [])->C):C:=by
 have hS:=h.symm.trans (hs.S w)
 unfold jo at hS
 cases y:(s.done w).getLast? with
 |none=>rw [y] at hS;exact E6 hS
 |some j=>
  rw [y] at hS
  obtain ⟨ys,hy⟩:=List.getLast?_eq_some_iff.mp y
  exact K ys j hy (kG y) (cq hS)
theorem DW (hs:pL ak s a)(h:a.S w=none):s.done w= []:=by
 have hS:=h.symm.trans (hs.S w)
 unfold jo at hS
 cases y:(s.done w).getLast? with
 |none=>exact List.getLast?_eq_none_iff.mp y
 |some j=>rw [y] at hS;exact nh hS
theorem JB {y:Nat}(h:y<s.told.length):(s.told.map SV.bytes)[y]? =some (.bytes (s.told.getD y [])):=by
 rw [iW,List.getD_eq_getElem?_getD,eV h];rfl
theorem Jr {y:Nat}(h:y<s.told.length)(hl:∀b∈s.told,b.length<=60):(s.told.getD y []).length<=60:=by
 rw [List.getD_eq_getElem?_getD,eV h]
 exact hl _ (List.getElem_mem h)
theorem Ez {op:Bool}{n:Nat}(h:n<=60):lJ [if op then 1 else 0,(n:Int)]=true:=by
 have h1:(decide ((0:Int)<=n)&&(decide ((n:Int)<256))&&true)=true:=by rw [bf (by exact fD _),bf (by exact iG ‹_› rfl)];rfl
 cases op<;>exact h1
theorem IC (w:Bool):lJ [cl w/256,cl w%256]=true:=by cases w<;>rfl
theorem Ki (w:Bool):([115,0,0,0,0,0,0]++ [cl w/256,cl w%256]:By)=de w:=by cases w<;>rfl
theorem Kv (w:Bool)(H:HP):dH (.ref H.length) (.int (wi w)) (H++ [.list [.int 5, .int 300]])= .ok (.int (cl w)) (H++ [.list [.int 5, .int 300]]):=by
 cases w
 ·exact oV (o:= .aM) (k:=0) rfl
 ·exact oV (o:= .aM) (k:=1) rfl
theorem Ha {num:Int}{y:Nat}(n0:0<=num)(n1:num<16384)(hr:rp.length<=60)(h8:l[8]? =some (some (.ref (z.n+6))))(Ni:l[17]? =some (some (.int y)))(UA:l[18]? =some (some (.int num)))(XZ:l[19]? =some (some (.bool op)))(ht:∀{H'},Ke H1 H'->dH (.ref (z.n+6)) (.int y) H' = .ok (.bytes rp) H')(k:Ke H1 H)(d:Nat){C:Prop}
  (K:∀H',bj P (run P (d+6)) (.bin .add (.bin .add (.fT 97 (.cons (.loc 18) .nil)) (.bH .bytes (.cons (.list (.cons (.ite (.loc 19) (.int 1) (.int 0)) (.cons (.bH .len (.cons (.sub (.loc 8) (.loc 17)) .nil)) .nil))) .nil))) (.sub (.loc 8) (.loc 17))) l H= .ok (.bytes (yQ num op rp)) H'->Gr H H'->C):C:=by
 refine aZ (oi n0 n1 (d+5) H) λH3 e3 g3=> ?_
 have k3:=k.trans g3.ke
 have g4:Gr H3 (H3++ [SO.list [.int (if op then 1 else 0), .int rp.length]]):=⟨_,rfl⟩
 have b4:=cJ (H:=H3++ [SO.list [.int (if op then 1 else 0), .int rp.length]]) (dU ..) rfl (Ez (op:=op) hr)
 have lv:=jy num
 exact K _ (aJ (aJ (cz (aa (bc UA) af) e3) (bu (aa (bG (aa (Er (q:=op) (v:= .int (if op then 1 else 0)) (gy XZ) (λz=>by rw [z];rfl) (λz=>by rw [z];rfl)) (aa (bu (aa (aN (bc h8) (bc Ni) (ht k3)) af) pQ) af))) af) b4)
  (hM (by show (vb num).length+2<=4096;lia) rfl)) (aN (bc h8) (bc Ni) (ht (k3.trans g4.ke))) (hM (by rw [aL];show _+2+_<=4096;lia) (by rw [bZ];rfl))) (g3.trans g4)
theorem uX (hm:H1[z.mi]? =some (aX z.si a.idx a.term a.aP aO sync))(cI:eK H1 z.si di bi (fW a) bl aU aW)(ha:oa a)(mf:lX ak)(z8:pL ak s a)(NA:∀w x,x∈s.done w->x<ak.length)(HX:∀b∈s.told,b.length<=60)
  (hA:H1[z.fQ]? =some (.list (ak.map bg.sv))) (rd:JM H1 z.n s so) (k:Ke H1 H) (hp:H[p]? =some (.list d9)) (hq:H[q]? =some (.list xj)) (np:H1.length<=p) (nq:H1.length<=q) (NY:p≠q) (la:d9.length<64) (Y9:xj.length<64) (f:Nat->Option SV) (cb:By) (d:Nat) {C:Prop}
  (K:∀f' H',aK P (run P (d+6)) M4 (xU z (DJ f cb r p q (some (.int (wi w))))) H= .next (xU z (DJ f' cb r p q (some (.int (wi w))))) H'->(∀(i:Nat) (o:SO),i≠p->i≠q->H[i]? =some o->H'[i]? =some o)->H'[p]? =some (.list (d9++zI a w))->H'[q]? =some (.list (xj++Ay a w))->C):C:=by
 have g1:Gr H (H++ [SO.list [.int 5, .int 300]]):=⟨_,rfl⟩
 have k1:=k.trans g1.ke
 have e1:=qN (d+5) H
 have s1:=Kv w H
 generalize H.length=Sc at s1 e1
 generalize H++ [SO.list [.int 5, .int 300]]=H2 at*
 have hl:=ca (k1 _ _ (rd.done w))
 rw [jB] at hl
 unfold zI Ay at K
 cases hz:a.S w with
 |none=>
  rw [DW z8 hz] at hl
  refine aZ (u6 (w:=w) (k1 _ _ hm) (cI.ke k1) ha d) λH3 e2 g2=> ?_
  rw [hz] at e2 K
  exact K _ H3 (nc (λf' =>xU z (DJ f' cb r p q (some (.int (wi w))))) (ae (bJ (aN (cz af e1) rfl s1)) (ae (bJ rfl) (ae (cD (an (bu (aa (aN rfl rfl (j9 w (k1 _ _ rd.lst))) af) hl) rfl (jG rfl)) aj)
   (ae (cD (an (aw (q:= .fn 80) (v:= .ref z.mi) (R:=run P (d+6)) rfl (bN (k1 _ _ hm)) (aa rfl af) e2) rfl rfl) aj) aj)))) rfl) (λi o u8 u8 e=>g2.at (g1.at e)) ((ch d9).symm▸g2.at (g1.at hp)) ((ch xj).symm▸g2.at (g1.at hq))
 |some st=>
  rw [hz] at K
  refine Eg z8 hz λys y VA UX SP=> ?_
  have Uu:=NA w y UX
  have UH:=(z8.dw w y UX).1
  have hb:=(mf.ok _ (jS Uu)).1
  have BP:=rd.done w
  rw [VA,<-mX] at BP
  rw [VA] at hl
  have Wu:=JB UH
  have RN:=Jr UH HX
  have a3:=md (k1 _ _ hA) Uu
  have n0:=hb.n0
  have n1:=hb.n1
  generalize s.told.getD y []=rp at*
  generalize ak.getD y dA=u at*
  have t8:∀{H},Ke H1 H->dH (.ref (z.n+6)) (.int y) H= .ok (.bytes rp) H:=λk=>vP (k _ _ rd.told) Wu
  have p1:=g1.at hp
  have e2:=jO (R:=run P (d+6)) (v:=o8 (w,st)) p1 (dR la (by decide))
  have k2:=EM (o:= .list (d9++ [o8 (w,st)])) k1 np
  have j2:∀(i:Nat) (o:SO),i≠p->H[i]? =some o->(H2.set p (.list (d9++ [o8 (w,st)])))[i]? =some o:=λi o h e=>bQ h (g1.at e)
  have p2:=eA (o:= .list (d9++ [o8 (w,st)])) p1
  generalize H2.set p (.list (d9++ [o8 (w,st)]))=H3 at*
  refine Ha (H1:=H1) (H:=H3) (z:=z) (op:= !decide (u.c.kind=6)) (y:=y) n0 n1 RN (l:=al (al (al (al (al (xU z (DJ f cb r p q (some (.int (wi w))))) 15 (.int (cl w))) 16 (uE (some st))) 17 (.int y)) 18 (.int u.c.number)) 19 (.bool (!decide (u.c.kind=6)))) rfl rfl rfl rfl t8 k2 d λH4 Zc g4=> ?_
  have q5:=g4.at (j2 q _ (Ne.symm NY) hq)
  have g5:Gr H4 (H4++ [SO.list [.int (cl w/256), .int (cl w%256)]]):=⟨_,rfl⟩
  have b5:=cJ (H:=H4++ [SO.list [.int (cl w/256), .int (cl w%256)]]) (dU ..) (is:= [cl w/256,cl w%256]) rfl (IC w)
  have c6:∀H,cF .add (.bytes [115,0,0,0,0,0,0]) (.bytes [cl w/256,cl w%256]) H= .ok (.bytes (de w)) H:=λH=>hM (show 7+2<=4096 by decide) (Ki w)
  have e6:=jO (R:=run P (d+6)) (v:=pv (de w,fo st)) (g5.at q5) (dR Y9 (by decide))
  have Vk:=g4.trans g5
  have k6:=EM (o:= .list (xj++ [pv (de w,fo st)])) (k2.trans Vk.ke) nq
  have j6:∀(i:Nat) (o:SO),i≠q->H3[i]? =some o->((H4++ [SO.list [.int (cl w/256), .int (cl w%256)]]).set q (.list (xj++ [pv (de w,fo st)])))[i]? =some o:=λi o h2 e=>bQ h2 (Vk.at e)
  have q6:=eA (o:= .list (xj++ [pv (de w,fo st)])) (g5.at q5)
  generalize (H4++ [SO.list [.int (cl w/256), .int (cl w%256)]]).set q (.list (xj++ [pv (de w,fo st)]))=H6 at*
  refine aZ (u6 (w:=w) (k6 _ _ hm) (cI.ke k6) ha d) λH7 e7 g7=> ?_
  rw [hz] at e7
  subst SP
  have Xg:gJ P (run P (d+6)) (.ifs (.loc 19) (.cons (.j3 (.name 16) (.tuple (.cons (.loc 18) (.cons (.sub (.loc 8) (.loc 17)) .nil)))) .nil) .nil) (al (al (al (al (al (xU z (DJ f cb r p q (some (.int (wi w))))) 15 (.int (cl w))) 16 .none) 17 (.int y)) 18 (.int u.c.number)) 19 (.bool (!decide (u.c.kind=6)))) H3=
    .next (al (al (al (al (al (xU z (DJ f cb r p q (some (.int (wi w))))) 15 (.int (cl w))) 16 (uE (some (u.c.number, !decide (u.c.kind=6),rp)))) 17 (.int y)) 18 (.int u.c.number)) 19 (.bool (!decide (u.c.kind=6)))) H3:=by
   cases !decide (u.c.kind=6) with
   |false=>exact cD (gy rfl) aj
   |true=>exact eZ (gy rfl) (ae (bJ (db (aa rfl (aa (aN rfl rfl (t8 k2)) af)))) aj)
  exact K _ H7 (nc (λf' =>xU z (DJ f' cb r p q (some (.int (wi w))))) (ae (bJ (aN (cz af e1) rfl s1)) (ae (bJ rfl) (ae (eZ (an (bu (aa (aN rfl rfl (j9 w (k1 _ _ rd.lst))) af) hl) rfl (jG (bf (by rw [aL];exact Int.natCast_pos.mpr (Nat.succ_pos _)))))
   (ae (bJ (aN (aN rfl rfl (j9 w (k1 _ _ rd.lst))) rfl (el (k1 _ _ BP)))) (ae (bJ (aN (aN rfl rfl a3) rfl (o:= .ok (.int u.c.number) _) rfl)) (ae (bJ (fU (aN (aN rfl rfl a3) rfl (o:= .ok (.int u.c.kind) _) rfl) rfl (k9 _ _ _))) (ae (bX (aw rfl (bN p1) (aa (db (aa rfl (aa rfl (aa rfl (aa (aN rfl rfl (t8 k1)) af))))) af) e2)) (ae Xg (ae (bJ Zc)
    (ae (bX (aw rfl (bN q5) (aa (db (aa (aJ rfl (bu (aa (bG (aa (aJ rfl rfl (mM (by decide) (by decide))) (aa (aJ rfl rfl (fG (by decide) (by decide))) af))) af) b5) (c6 _)) (aa rfl af))) af) e6)) aj))))))))
   (ae (cD (an (aw (q:= .fn 80) (v:= .ref z.mi) (R:=run P (d+6)) rfl (bN (k6 _ _ hm)) (aa rfl af) e7) rfl (rY (H:=H7) (G8 _).1 (G8 _).2)) aj) aj)))) rfl) (λi o h1 h2 e=>g7.at (j6 i o h2 (j2 i o h1 e))) (g7.at (j6 p _ NY p2)) (g7.at q6)
end
end Mine
set_option maxHeartbeats 2000000
namespace Mine
open PySem
theorem Py:U2.Pairwise (λa b=>hV a b=true):=by decide
theorem HY (a:AS):((U2.filter λk=>(a.now k).isSome).filter λu8=>true).map (λk=>pv (k,(a.now k).getD []))=(dQ a).map pv:=by
 unfold dQ mD U2
 cases h1:a.now []<;>cases h2:a.now [107]<;>simp [h1,h2]
theorem jR {α:Type}:∀(l:List α),l.filter (λu8=>true)=l
 | []=>rfl
 |x::r=>congrArg (x:: ·) (jR r)
theorem EA (h:r∈dQ a):(r.1= []∨r.1= [107]):=by
 unfold dQ mD at h
 rcases gf h with h|h
 ·split at h
  ·exact j1 h
  ·rw [eF h];exact .inl rfl
 ·split at h
  ·exact j1 h
  ·rw [eF h];exact .inr rfl
theorem xJ (a:AS):(dQ a).length<=2:=by unfold dQ;cases a.now []<;>cases a.now [107]<;>exact Nat.le_of_ble_eq_true rfl
theorem JG (a:AS):([pv ([97],fz a.idx a.term a.aP)]++((dQ a).filter λu8=>true).map (λr=>pv (100::r.1,r.2))++Ay a false)++Ay a true=((U5.map (oB (fW a) none none)).flatten).map pv:=by
 rw [Hf]
 unfold dQ Ay
 cases a.now []<;>cases a.now [107]<;>cases a.S false<;>cases a.S true<;>rfl
theorem Je (a:AS):([]++zI a false)++zI a true=(o9 a).map o8:=by
 unfold o9 zI
 cases a.S false<;>cases a.S true<;>rfl
theorem Oi {n:Nat}(p:By×By):Dp (n+2) (pv p):=bO trivial (bO trivial i5)
theorem QR (p:Bool×(Int×Bool×By)):Dp 5 (o8 p):=bO trivial (bO trivial (bO trivial (bO trivial i5)))
theorem L7 (a:AS):Dp 6 (.tuple [.int a.idx, .int a.term, .bytes a.aP, .tuple ((dQ a).map pv), .tuple ((o9 a).map o8)]):=
 bO trivial (bO trivial (bO trivial (bO (zP λu8=>bO trivial (bO trivial i5)) (bO (zP λu8=>bO trivial (bO trivial (bO trivial (bO trivial i5)))) i5))))
theorem xT {lo hi:Int}(h0:0<=lo)(h1:hi<=256)(e:fq lo hi=c):Mine.bH Bi.bytes [.range lo hi] H= .ok (.bytes c) H:=by
 rw [<-e]
 exact if_pos ⟨h0,h1⟩
theorem jM {lo hi:Int}(h0:0<=lo)(h1:lo<=hi)(h2:hi<=4096):Mine.bH Bi.range [.int lo, .int hi] H= .ok (.range lo hi) H:=if_pos ⟨h0,h1,h2⟩
theorem tv (m:Nat):fq 1 ((m:Int)+1)=fP m:=by
 unfold fq fP
 rw [show ((m:Int)+1 - 1).toNat=m by lia]
 apply List.map_congr_left
 intro k _
 lia
theorem tN (m:Nat):(fP m).length=m:=by unfold fP;rw [bI,List.length_range]
section
variable {H:HP}{si di bi mi fQ lg:Nat}{aU aO:Int}{sync:Bool}{bl:List (Nat×List Op)}{a:AS}{ak:List bg}{es:List bo}{e:bo}
theorem GC {n:Nat}(hL:H[lg]? =some (.list (es.map bo.sv++ [e.sv])))(t6:e.mem<=50){R:au}(h2:l[2]? =some (some (.ref lg))):
  bj P R (.bin .add (.bin .add (.bH .bytes (.cons (.list (.cons (.sub (.sub (.loc 2) (.neg (.int 1))) (.int 1)) .nil)) .nil)) (.bH .bytes (.cons (.bH .range (.cons (.int 1) (.cons (.bin .add (.sub (.sub (.loc 2) (.neg (.int 1))) (.int 1)) (.int 1)) .nil))) .nil))) (.bytes [0,0,0,0])) l H= .ok (.bytes (dC (fP e.mem))) (H++ [.list [.int e.mem]]):=by
 have g:Gr H (H++ [SO.list [.int e.mem]]):=⟨_,rfl⟩
 have hm:∀{H' :HP},Gr H H'->bj P R (.sub (.sub (.loc 2) (.neg (.int 1))) (.int 1)) l H' = .ok (.int e.mem) H' :=λg=>aN (aN (bc h2) rfl (el (g.at hL))) rfl rfl
 have hl:=tN e.mem
 have ho:lJ [(e.mem:Int)]=true:=kD (fD _) (by exact iG ‹_› rfl)
 refine aJ (aJ (bu (aa (bG (aa (hm Gr.refl) af)) af) (cJ (dU ..) rfl ho)) (bu (aa (bu (aa rfl (aa (aJ (hm g) rfl rfl) af)) (jM (by decide) (by lia) (by lia))) af) (xT (by decide) (by lia) (tv _))) (hM (c:=jg (fP e.mem)) (by rw [hl];show 1+_<=4096;lia) (by unfold jg;rw [hl];rfl))) rfl (hM ?_ rfl)
 unfold jg
 rw [dq,hl]
 show _+4<=4096
 lia
end
section
variable {H:HP}{z:Wq}{a:AS}{es:List bo}{e:bo}{so:SO}
theorem Hl (hL:H[z.lg]? =some (.list (es.map bo.sv++ [e.sv])))(xy:a.idx=(es.length+1:Nat))(i1:a.idx<1000)(qT:a.term=e.term)(t0:0<=a.term)(t1:a.term<1000)(DH:a.aP.length<100)(h2:l[2]? =some (some (.ref z.lg)))(h9:l[9]? =some (some (.bytes a.aP)))(d:Nat){C:Prop}
  (K:∀H',bj P (run P (d+1)) (.tuple (.cons (.bytes [97]) (.cons (.bin .add (.bin .add (.bin .add (.fT 97 (.cons (.bH .len (.cons (.loc 2) .nil)) .nil)) (.fT 97 (.cons (.sub (.sub (.loc 2) (.neg (.int 1))) (.int 0)) .nil))) (.bH .bytes (.cons (.list (.cons (.bH .len (.cons (.loc 9) .nil)) .nil)) .nil))) (.loc 9)) .nil))) l H= .ok (pv ([97],fz a.idx a.term a.aP)) H'->Gr H H'->C):C:=by
 refine aZ (oi (n:=a.idx) (by lia) (by exact iB ‹_› rfl) d H) λH4 e4 g4=> ?_
 refine aZ (oi (n:=a.term) t0 (by exact iB ‹_› rfl) d H4) λH5 e5 g5=> ?_
 have b6:=cJ (H:=H5++ [SO.list [.int a.aP.length]]) (dU ..) (is:= [(a.aP.length:Int)]) rfl (kD (fD _) (by exact iF ‹_› rfl))
 have v1:=jy a.idx
 have v2:=jy a.term
 have em:=ca hL
 rw [aL,bI,show (([e.sv]:List SV).length)=1 from rfl,<-xy] at em
 exact K _ (db (aa rfl (aa (aJ (aJ (aJ (cz (aa (bu (aa (bc h2) af) em) af) e4) (cz (aa (v:= .int a.term) (aN (aN (bc h2) rfl (el (g4.at hL))) rfl (o:= .ok (.int a.term) _) (by rw [qT];rfl)) af) e5) (hM (c:=vb a.idx++vb a.term) (by lia) rfl))
   (bu (aa (bG (aa (bu (aa (bc h9) af) pQ) af)) af) b6) (hM (c:=vb a.idx++vb a.term++ [(a.aP.length:Int)]) (by rw [aL];show _+1<=4096;lia) rfl)) (bc h9) (hM (c:=fz a.idx a.term a.aP) (by rw [aL,aL];show _+1+_<=4096;lia) (by unfold fz;rw [bZ,bZ];rfl))) af))) ((g4.trans g5).trans ⟨_,rfl⟩)
theorem BU (hD:dP U2 so a.now)(zr:H[z.n+2]? =some so)(hL:H[z.lg]? =some (.list (es.map bo.sv++ [e.sv])))(xy:a.idx=(es.length+1:Nat))(i1:a.idx<1000)(qT:a.term=e.term)(t0:0<=a.term)(t1:a.term<1000)(DH:a.aP.length<100)(f:Nat->Option SV)(d:Nat){C:Prop}
  (K:∀H' p q r,Ke H H'->H.length<=p->H.length<=q->p≠q->H'[r]? =some (.list ((dQ a).map pv))->r<p->r<q->H'[p]? =some (.list [])->H'[q]? =some (.list ([pv ([97],fz a.idx a.term a.aP)]++((dQ a).filter λu8=>true).map (λr=>pv (100::r.1,r.2))))->
   (∀o,aK P (run P (d+1)) (bx 6 Cv) (xU z (DJ f a.aP r p q (f 14))) H' =o->aK P (run P (d+1)) (bx 2 Cv) (al (xU z f) 9 (.bytes a.aP)) H=o)->C):C:=by
 have e1:=xd Py (by decide) hD zr
 have g1:Gr H (H++ [SO.list ((U2.filter λk=>(a.now k).isSome).map .bytes)]):=⟨_,rfl⟩
 have rX:(H++ [SO.list ((U2.filter λk=>(a.now k).isSome).map .bytes)])[H.length]? =some (.list ((U2.filter λk=>(a.now k).isSome).map .bytes)):=dU ..
 have lU:(U2.filter λk=>(a.now k).isSome).length<=2:=List.length_filter_le _ _
 have c1:=pd (w:=1) (k:= .pair (.loc 1000) (.sub (.loc 6) (.loc 1000))) (t:=none) (v:= .ref H.length) (p:=λu8=>true) (enc:=SV.bytes) (f:=λk=>pv (k,(a.now k).getD [])) (l:=al (xU z f) 9 (.bytes a.aP)) (xs:=U2.filter λk=>(a.now k).isSome)
  (eB rX) ((dY rX).trans (bI _)) rfl (λk hk=>⟨[.bytes k],rfl,rfl,λu8=>by
   obtain ⟨v,hv⟩:=Option.isSome_iff_exists.mp (List.mem_filter.mp hk).2
   have h1:=xh (k:=k) (g1.at zr) hD hv
   show (rn (.ref (z.n+2)) (.bytes k) _).bind (λy=>some (SV.tuple [.bytes k,y]))=_
   unfold rn
   rw [h1,hv]
   rfl⟩) (by exact lA ‹_› rfl)
 rw [HY] at c1
 have e2:=Eu (R:=run P (d+1)) (i:=11) (it:= .bH .sorted (.cons (.loc 6) .nil)) (bu (aa rfl af) e1) c1
 have Zp:=g1.le
 generalize H++ [SO.list ((U2.filter λk=>(a.now k).isSome).map .bytes)]=H1 at*
 have hr:(H1++ [SO.list ((dQ a).map pv)])[H1.length]? =some (.list ((dQ a).map pv)):=dU ..
 have g2:Gr H1 (H1++ [SO.list ((dQ a).map pv)]):=⟨_,rfl⟩
 have Zr:(H1++ [SO.list ((dQ a).map pv)]).length=H1.length+1:=aL
 generalize H1.length=r at*
 generalize H1++ [SO.list ((dQ a).map pv)]=H2 at*
 have g3:Gr H2 (H2++ [SO.list []]):=⟨_,rfl⟩
 have hp:(H2++ [SO.list []])[H2.length]? =some (.list []):=dU ..
 have gL:=g3.at (g2.at (g1.at hL))
 refine Hl (z:=z) gL xy i1 qT t0 t1 DH (l:=al (al (al (xU z f) 9 (.bytes a.aP)) 11 (.ref r)) 12 (.ref H2.length)) rfl rfl d λH6 e6 g6=> ?_
 have g7:Gr H6 (H6++ [SO.list [pv ([97],fz a.idx a.term a.aP)]]):=⟨_,rfl⟩
 have Yr:(H6++ [SO.list [pv ([97],fz a.idx a.term a.aP)]])[H6.length]? =some (.list [pv ([97],fz a.idx a.term a.aP)]):=dU ..
 have Vw:=(g3.trans g6).trans g7
 have RC:=Vw.at hr
 have Wx:=(g6.trans g7).at hp
 have l7:=(g6.trans g7).le
 have l3:(H2++ [SO.list []]).length=H2.length+1:=aL
 have V1:=xJ a
 have c8:=pd (w:=2) (k:= .pair (.bin .add (.bytes [100]) (.loc 1000)) (.loc 1001)) (t:=none) (v:= .ref r) (p:=λu8=>true) (enc:=pv) (f:=λr=>pv (100::r.1,r.2)) (l:=xU z (DJ f a.aP r H2.length H6.length (f 14))) (xs:=dQ a)
  (eB RC) ((dY RC).trans (bI _)) rfl (λx hx=>⟨[.bytes x.1, .bytes x.2],rfl,rfl,λu8=>by
   rcases EA hx with h|h<;>(rw [h];rfl)⟩) (by exact lA ‹_› rfl)
 have e8:=I2 (R:=run P (d+1)) (i:=13) (it:= .loc 11) (l:=xU z (DJ f a.aP r H2.length H6.length (f 14))) rfl rfl c8 Yr (by
  rw [jR,bI]
  exact cy (Nat.add_le_add_left V1 1) (by decide))
 generalize YE:H6++ [SO.list [pv ([97],fz a.idx a.term a.aP)]]=H7 at*
 have g8:Gr H7 ((H7++ [SO.list (((dQ a).filter λu8=>true).map λr=>pv (100::r.1,r.2))])++ [SO.list ([pv ([97],fz a.idx a.term a.aP)]++((dQ a).filter λu8=>true).map λr=>pv (100::r.1,r.2))]):=Gr.trans ⟨_,rfl⟩ ⟨_,rfl⟩
 have ql:(H7++ [SO.list (((dQ a).filter λu8=>true).map λr=>pv (100::r.1,r.2))]).length=H7.length+1:=aL
 exact K _ H2.length (H7.length+1) r (((g1.trans g2).trans Vw).trans g8).ke (by lia) (by lia) (by lia) (g8.at RC) (by lia) (by lia) (g8.at Wx) (by rw [<-ql];exact dU ..) λo ho=>
  ae e2 (ae (bJ (bG af)) (ae (bJ (YE▸bG (aa e6 af))) (ae e8 ho)))
end
theorem wK (o:Option By)(H:HP):bU .ne (ob o) (ob o) H=some false:=by
 cases o with
 |none=>rfl
 |some b=>exact rY (v:= .bytes b) (λu8 z=>(nomatch z)) trivial
noncomputable def PD (f:Nat->Option SV)(ky:Option SV):Nat->Option SV
 |10=>ky
 |k=>f k
section
variable {H H1:HP}{z:Wq}{di bi:Nat}{aU aW aO:Int}{sync:Bool}{bl:List (Nat×List Op)}{a:AS}{ak:List bg}{es:List bo}{e:bo}{so:SO}
theorem Ml {l:List (By×By)}:∀v∈l.map pv,Dp 6 v:=λv hv=>by
 refine aZ (gH hv) λx u8 dc=> ?_;subst dc
 exact Oi x
theorem I9 (hm:H[z.mi]? =some (aX z.si a.idx a.term a.aP aO sync))(cI:eK H z.si di bi (fW a) bl aU aW)(hD:dP U2 so a.now)(zr:H[z.n+2]? =some so)(f:Nat->Option SV)(d:Nat){ky:By}(hl:ky.length<=10)(hk:fW a (100::ky)=a.now ky)(i:Option SV):aK P (run P (d+6)) (tD (cK (bx 7 Cv))) (al (xU z (PD f i)) 10 (.bytes ky)) H= .next (xU z (PD f (some (.bytes ky)))) H:=by
 refine aZ cI.dd λE1 d1 d2=> ?_
 have e2:=Oo (k:=ky) (cy hl (by decide)) hm cI.st d1 d2 (d+4)
 rw [hk] at e2
 exact ae (cD (an (aw (q:= .fn 78) (v:= .ref z.mi) (R:=run P (d+6)) rfl (bN hm) (aa rfl af) e2) (aw (R:=run P (d+6)) rfl (vY zr hD) (aa rfl af) (E8 zr hD)) (wK _ _)) aj) aj
theorem CK {ec:List Int}{p q r:Nat}(hm:H1[z.mi]? =some (aX z.si a.idx a.term a.aP aO sync))(cI:eK H1 z.si di bi (fW a) bl aU aW)(ha:oa a)(hD:dP U2 so a.now)(zr:H1[z.n+2]? =some so)(O8:H1[z.n+1]? =some (.list (iL ec)))(vI:aW=ec.sum)
  (hL:H1[z.lg]? =some (.list (es.map bo.sv++ [e.sv]))) (xy:a.idx=(es.length+1:Nat)) (qT:a.term=e.term) (k:Ke H1 H) (hr:H[r]? =some (.list ((dQ a).map pv))) (hp:H[p]? =some (.list ((o9 a).map o8))) (hq:H[q]? =some (.list (((U5.map (oB (fW a) none none)).flatten).map pv)))
  (f:Nat->Option SV) (i:Option SV) (d:Nat):∃H',aK P (run P (d+6)) (bx 7 Cv) (xU z (DJ f a.aP r p q i)) H= .ret (.bool true) H' :=by
 have rX:(H++ [SO.list [.bytes [], .bytes [107]]])[H.length]? =some (.list [.bytes [], .bytes [107]]):=dU ..
 have e1:=yE (d+5) H
 have g1:Gr H (H++ [SO.list [.bytes [], .bytes [107]]]):=⟨_,rfl⟩
 have k1:=k.trans g1.ke
 have hr:=g1.at hr
 have hp:=g1.at hp
 have hq:=g1.at hq
 have hN:fa (.ref H.length) (H++ [SO.list [.bytes [], .bytes [107]]])=2:=(dY rX).trans rfl
 generalize H.length=m at*
 generalize H++ [SO.list [.bytes [], .bytes [107]]]=H2 at*
 have one:=λ{ky:By}=>I9 (k1 _ _ hm) (cI.ke k1) hD (k1 _ _ zr) (DJ f a.aP r p q i) d (ky:=ky)
 refine aZ cI.dd λE1 d1 d2=> ?_
 have e3:=wZ (lo:=none) (hi:=none) (k1 _ _ cI.st) (k1 _ _ d1) d2 (d+5)
 rw [mS] at e3
 have g3:Gr H2 (H2++SO.list (((U5.map (oB (fW a) none none)).flatten).map pv)::SO.list ((U5.filter λk=>(fW a k).isSome).map .bytes):: []):=⟨_,rfl⟩
 have e4:=Gn (i:=H2.length) (j:=q) (H:=H2++SO.list (((U5.map (oB (fW a) none none)).flatten).map pv)::SO.list ((U5.filter λk=>(fW a k).isSome).map .bytes):: []) nQ (g3.at hq) Ml
 have k3:=k1.trans g3.ke
 have hr:=g3.at hr
 have hp:=g3.at hp
 generalize H2++SO.list (((U5.map (oB (fW a) none none)).flatten).map pv)::SO.list ((U5.filter λk=>(fW a k).isSome).map .bytes):: []=H3 at*
 refine aZ (PJ (k3 _ _ hm) (cI.ke k3) ha d) λH4 e6 g4=> ?_
 have k4:=k3.trans g4.ke
 have em:=ca (k4 _ _ hL)
 rw [aL,bI,show (([e.sv]:List SV).length)=1 from rfl,<-xy] at em
 exact ⟨H4,ae (f_ (v:= .ref m) (cz af e1) (by
  rw [hN]
  exact fA (eB rX 0) rfl (one (by decide) (wD a) (f 10)) (fA (eB rX 1) rfl (one (by decide) (wO a) _) (jr (eB rX 2)))))
  (ae (cD (fC (da (an (aw (q:= .fn 91) (v:= .ref z.si) (R:=run P (d+6)) rfl (bN (k1 _ _ cI.st)) (aa rfl (aa rfl (aa rfl af))) e3) rfl e4) (da (an (aF rfl (k3 _ _ cI.st) rfl) (bu (aa rfl af) (Gk (k3 _ _ O8))) ((k9 _ _ _).trans (by rw [bf vI];rfl))) fc))) aj)
   (aY (bK (fU (aw (q:= .fn 83) (v:= .ref z.mi) (R:=run P (d+6)) rfl (bN (k3 _ _ hm)) af e6) (db (aa (bu (aa rfl af) em) (aa (v:= .int a.term) (aN (aN rfl rfl (el (k4 _ _ hL))) rfl (o:= .ok (.int a.term) _) (by rw [qT];rfl)) (aa rfl (aa (bu (aa rfl af) (fZ (g4.at hr))) (aa (bu (aa rfl af) (fZ (g4.at hp))) af)))))) (eq_self (λu8 z=>(nomatch z)) (L7 a))))))⟩
theorem JE:(zI a w).length<=1:=by unfold zI;split<;>exact Nat.le_of_ble_eq_true rfl
theorem Iw:(Ay a w).length<=1:=by unfold Ay;split<;>exact Nat.le_of_ble_eq_true rfl
theorem Gf {p q:Nat}(k:Ke H1 H)(np:H1.length<=p)(nq:H1.length<=q)(m:∀(i:Nat) (o:SO),i≠p->i≠q->H[i]? =some o->H'[i]? =some o):Ke H1 H' :=λi o e=>
 have h:=(gw e).1
 m i o (cV (Nat.lt_of_lt_of_le h np)) (cV (Nat.lt_of_lt_of_le h nq)) (k i o e)
theorem TT {α:Type}{x:α}{l m:List α}(h:l.length<=2)(h2:m.length<=1):([x]++l++m).length<64:=by
 rw [aL,aL]
 show 1+l.length+m.length<64
 lia
theorem BM {si mi lg fQ:Nat}(hm:H[mi]? =some (aX si a.idx a.term a.aP aO sync))(cI:eK H si di bi (fW a) bl aU aW)(ha:oa a)(hL:H[lg]? =some (.list ((es++ [e]).map bo.sv)))(hA:H[fQ]? =some (.list (ak.map bg.sv)))(mf:lX ak)(hw:n8 ak mT (es++ [e]))(hl:(es++ [e]).length<40)
  (z8:pL ak (cE ak mT (es++ [e])) a) (K3:ga ak (cE ak mT (es++ [e])) (es++ [e]).length) (t6:e.mem<=50) (xy:a.idx=(es.length+1:Nat)) (qT:a.term=e.term) (t0:0<=a.term) (t1:a.term<1000) (Pf:a.aP=dC (fP e.mem)) (vI:aW=(cE ak mT (es++ [e])).ec.sum) (d:Nat):
  ∃H',run P (d+7) 100 [.ref si, .ref mi, .ref lg, .ref fQ] H= .ok (.bool true) H' :=by
 refine px mf hA hL hw hl (d+4) λso H1 e1 g1 rd hD=> ?_
 have HX:∀b∈(cE ak mT (es++ [e])).told,b.length<=60:=λb hb=>cy (K3.tl b hb) (by lia)
 have NA:=K3.dk
 generalize cE ak mT (es++ [e])=s at*
 rw [z8.now] at hD
 have a3:=g1.at hL
 rw [eG] at a3
 have a1:=g1.at hm
 have a2:=cI.gr g1
 have a4:=g1.at hA
 generalize H.length=n at*
 have e2:=GC (n:=0) (R:=run P (d+6)) (l:=xU ⟨si,mi,lg,fQ,n⟩ λu8=>none) a3 t6 rfl
 rw [<-Pf] at e2
 have g2:Gr H1 (H1++ [SO.list [.int e.mem]]):=⟨_,rfl⟩
 generalize H1++ [SO.list [.int e.mem]]=H2 at*
 refine BU (z:=⟨si,mi,lg,fQ,n⟩) hD (g2.at rd.now) (g2.at a3) xy ha.i1 qT t0 t1 ha.aP (λu8=>none) (d+5) λH3 p q r k3 np nq NY hr rp rq hp hq f3=> ?_
 have KA:=g2.le
 have np:=cy KA np
 have nq:=cy KA nq
 have lR:(((dQ a).filter λu8=>true).map (λr=>pv (100::r.1,r.2))).length<=2:=by
  rw [jR,bI]
  exact xJ a
 have UO:=g2.ke.trans k3
 refine uX (z:=⟨si,mi,lg,fQ,n⟩) (w:=false) (r:=r) a1 a2 ha mf z8 NA HX a4 rd UO hp hq np nq NY (by decide) (fJ (Nat.le_of_eq aL) (by show 1+_<64;lia)) (λu8=>none) a.aP d λf4 H4 e4 m4 p4 q4=> ?_
 have k4:=Gf UO np nq m4
 refine uX (z:=⟨si,mi,lg,fQ,n⟩) (w:=true) (r:=r) a1 a2 ha mf z8 NA HX a4 rd k4 p4 q4 np nq NY (fJ JE (by decide)) (TT lR Iw) f4 a.aP d λf5 H5 e5 m5 p5 q5=> ?_
 rw [Je] at p5
 rw [JG] at q5
 have Xe:=m5 _ _ (cV rp) (cV rq) (m4 _ _ (cV rp) (cV rq) hr)
 obtain ⟨H6,e6⟩:=CK (z:=⟨si,mi,lg,fQ,n⟩) a1 a2 ha hD rd.now rd.ec vI a3 xy qT (Gf k4 np nq m5) Xe p5 q5 f5 (some (.int (wi true))) d
 exact ⟨H6,aE rfl rfl (ae (lz (cz (aa rfl (aa rfl af)) e1) rfl) (ae (bJ e2) (f3 _ (ae (f_ (v:= .range 0 2) (bu (aa rfl af) (kX (n:=2) (by decide))) (fA (pA (n:=2) (k:=0) (by decide)) rfl e4 (fA (pA (n:=2) (k:=1) (by decide)) rfl e5 (jr (qu (n:=2)))))) e6))))⟩
end
noncomputable def eh (ak:List bg)(a:AS):List bo->AS
 | []=>a
 |e::r=>eh ak (pI ak a e) r
noncomputable def jI (ak:List bg)(a:AS):List bo->List (List Op)
 | []=> []
 |e::r=>xb ak a e::jI ak (pI ak a e) r
noncomputable def nM (ak:List bg)(a:AS):List bo->List (Option By)
 | []=> []
 |e::r=>mA a (kF ak e.one)::nM ak (pI ak a e) r
theorem qr:∀{es:List bo} {a:AS},eh ak a (es++ [e])=pI ak (eh ak a es) e
 | [],_=>rfl
 |x::r,a=>qr (es:=r) (a:=pI ak a x)
theorem uR:∀{es:List bo} {a:AS},jI ak a (es++ [e])=jI ak a es++ [xb ak (eh ak a es) e]
 | [],_=>rfl
 |x::r,a=>congrArg (xb ak a x:: ·) (uR (es:=r) (a:=pI ak a x))
theorem Ar:∀{es:List bo} {a:AS},nM ak a (es++ [e])=nM ak a es++ [mA (eh ak a es) (kF ak e.one)]
 | [],_=>rfl
 |x::r,a=>congrArg (mA a (kF ak x.one):: ·) (Ar (es:=r) (a:=pI ak a x))
theorem nY:∀{es:List bo} {s:RS},cE ak s (es++ [e])=dz ak (cE ak s es) e.one
 | [],_=>rfl
 |x::r,s=>nY (es:=r) (s:=dz ak s x.one)
theorem pZ:∀{es:List bo} {s:RS},n8 ak s es->q7 ak (cE ak s es) e.one->n8 ak s (es++ [e])
 | [],_,_,h=>⟨h,trivial⟩
 |x::r,s,h,h2=>⟨h.1,pZ (es:=r) h.2 h2⟩
theorem vH:∀{es:List bo} {a:AS} (j:Nat),(jI ak a es).take j=jI ak a (es.take j)
 | [],_,j=>by rw [List.take_nil];exact List.take_nil
 |_::_,_,0=>rfl
 |x::r,a,j+1=>congrArg (xb ak a x:: ·) (vH (es:=r) (a:=pI ak a x) j)
theorem sQ:∀{es:List bo} {a:AS},(jI ak a es).length=es.length
 | [],_=>rfl
 |x::r,a=>congrArg (·+1) (sQ (es:=r) (a:=pI ak a x))
theorem Cw:∀{es:List bo} {a:AS},(nM ak a es).length=es.length
 | [],_=>rfl
 |x::r,a=>congrArg (·+1) (Cw (es:=r) (a:=pI ak a x))
theorem vg:∀{es:List bo} {a:AS} {j:Nat},es[j]? =some e->(nM ak a es)[j]? =some (mA (eh ak a (es.take j)) (kF ak e.one))
 | [],_,_,h=>nomatch h
 |x::r,a,0,h=>by cases h;rfl
 |x::r,a,j+1,h=>vg (es:=r) (a:=pI ak a x) (j:=j) h
theorem sJ {ak:List bg}:∀{es:List bo} {a:AS},(eh ak a es).idx=a.idx+(es.length:Nat)
 | [],a=>(Int.add_zero _).symm
 |x::r,a=>by
  have:=sJ (ak:=ak) (es:=r) (a:=pI ak a x)
  refine this.trans ?_
  show a.idx+1+(r.length:Int)=a.idx+((r.length+1:Nat):Int)
  lia
theorem AN (hu:yZ ak)(mf:lX ak):∀{es:List bo} {s:RS} {a:AS},pL ak s a->n8 ak s es->pL ak (cE ak s es) (eh ak a es)/\(cE ak s es).fB=s.fB++nM ak a es/\(cE ak s es).ec=s.ec++(jI ak a es).map λo=>(o.length:Int)
 | [],s,a,h,_=>⟨h,(ch _).symm,(ch _).symm⟩
 |e::r,s,a,h,hw=>by
  refine rB (yr h hu mf hw.1) λh1 h2 h3=> ?_
  refine rB (AN hu mf (es:=r) h1 hw.2) λg1 g2 g3=> ?_
  refine ⟨g1,g2.trans ?_,g3.trans ?_⟩
  ·rw [h2,bZ];rfl
  ·rw [h3,bZ];rfl
theorem uU (mf:lX ak):∀{es:List bo} {s:RS} {n:Nat},ga ak s n->n8 ak s es->ga ak (cE ak s es) (n+es.length)
 | [],_,_,h,_=>h
 |e::r,s,n,h,hw=>by
  have:=uU mf (es:=r) (EB h mf hw.1) hw.2
  rw [dq,show n+(r.length+1)=n+1+r.length by lia]
  exact this
noncomputable def Et:List (List Op)->(By->Option By)->By->Option By
 | [],D=>D
 |o::r,D=>Et r (eT o D)
theorem Br:∀(bl:List (Nat×List Op)) (D:By->Option By),pV bl D=Et (bl.map (·.2)) D
 | [],_=>rfl
 |p::r,D=>Br r (eT p.2 D)
noncomputable def EW (ak:List bg)(es:List bo):Prop:=∀e∈es,∃kind data,f9 kind data (kF ak e.one)
theorem xS:∀{es:List bo} {a:AS},EW ak es->Et (jI ak a es) (fW a)=fW (eh ak a es)
 | [],_,_=>rfl
 |e::r,a,h=>by
  refine Ad (h e (.head _)) λk d hw=> ?_
  show Et (jI ak (pI ak a e) r) (eT (xb ak a e) (fW a))=_
  have:eT (xb ak a e) (fW a)=fW (pI ak a e):=A3 a (a.idx+1) e.term (dC (fP e.mem)) hw
  rw [this]
  exact xS (es:=r) λx hx=>h x (.tail _ hx)
section
variable {ak:List bg}{x:bg}
theorem zc (h:∀k,one=some k->k<ak.length):kF (ak++ [x]) one=kF ak one:=by
 cases one with
 |none=>rfl
 |some k=>
  show rA.cmd _ _=rA.cmd _ _
  rw [fS (h k rfl)]
theorem GK (h:∀k∈done,k<ak.length):iw (ak++ [x]) done=iw ak done:=by
 unfold iw
 cases q:done.getLast? with
 |none=>rfl
 |some k=>
  dsimp only
  rw [fS (h k (kG q))]
theorem z7 {n:Nat}(hs:ga ak s n)(h:∀k,one=some k->k<ak.length):dz (ak++ [x]) s one=dz ak s one:=by
 cases one with
 |none=>rfl
 |some k=>
  unfold dz
  dsimp only
  rw [fS (h k rfl),GK (hs.dk _)]
theorem Hy (mf:lX ak):∀{es:List bo} {s:RS} {n:Nat},ga ak s n->n8 ak s es->cE (ak++ [x]) s es=cE ak s es/\n8 (ak++ [x]) s es
 | [],_,_,_,_=>⟨rfl,trivial⟩
 |e::r,s,n,hs,hw=>by
  have h1:dz (ak++ [x]) s e.one=dz ak s e.one:=z7 hs λk hk=>(hw.1 k hk).1
  obtain ⟨g1,g2⟩:=Hy mf (es:=r) (EB hs mf hw.1) hw.2
  refine ⟨?_,λk hk=>⟨by rw [aL];exact Nat.lt_succ_of_lt (hw.1 k hk).1,(hw.1 k hk).2⟩, ?_⟩
  ·show cE (ak++ [x]) (dz (ak++ [x]) s e.one) r=_
   rw [h1];exact g1
  ·show n8 (ak++ [x]) (dz (ak++ [x]) s e.one) r
   rw [h1];exact g2
theorem IO:∀{s:RS},n8 ak s es->∀e∈es,∀k,e.one=some k->k<ak.length:=by
 induction es with
 |nil=>exact λu8 u8 h=>j1 h
 |cons x r ih=>
  intro s h e he k hk
  rcases cH he with rfl|he
  ·exact (h.1 k hk).1
  ·exact ih h.2 e he k hk
theorem Bl:∀{es:List bo} {a:AS},(∀e∈es,∀k,e.one=some k->k<ak.length)->eh (ak++ [x]) a es=eh ak a es/\jI (ak++ [x]) a es=jI ak a es
 | [],_,_=>⟨rfl,rfl⟩
 |e::r,a,h=>by
  have h1:kF (ak++ [x]) e.one=kF ak e.one:=zc (h e (.head _))
  obtain ⟨g1,g2⟩:=Bl (es:=r) (a:=pI ak a e) λy hy=>h y (.tail _ hy)
  have h2:pI (ak++ [x]) a e=pI ak a e:=by unfold pI;rw [h1]
  have h3:xb (ak++ [x]) a e=xb ak a e:=by unfold xb;rw [h1]
  refine ⟨?_, ?_⟩
  ·show eh (ak++ [x]) (pI (ak++ [x]) a e) r=_
   rw [h2];exact g1
  ·show xb (ak++ [x]) a e::jI (ak++ [x]) (pI (ak++ [x]) a e) r=_
   rw [h2,h3,g2];rfl
theorem NE {n:Nat}(hs:ga ak s n):ga (ak++ [x]) s n:=
 ⟨hs.r,hs.c,hs.t,hs.st,hs.d,λw k h=>by rw [aL];exact Nat.lt_succ_of_lt (hs.dk w k h),hs.nw,hs.tl⟩
theorem tX {k:Nat}(h:k<(ak++ [x]).length):(k<ak.length/\(ak++ [x]).getD k dA=ak.getD k dA)∨(k=ak.length/\(ak++ [x]).getD k dA=x):=by
 rw [aL] at h
 by_cases q:k<ak.length
 ·exact .inl ⟨q,fS q⟩
 ·have:k=ak.length:=by
   have:k<ak.length+1:=h
   lia
  subst this
  exact .inr ⟨rfl,l8⟩
theorem Hi (mf:lX ak)(hx:x.c.Ok/\x.c.kind<=6/\(x.c.key= []∨x.c.key= [107])/\x.c.value.length=1/\x.c.d7=cl x.dD):lX (ak++ [x]):=⟨λa ha=>by
 rcases gf ha with ha|ha
 ·exact mf.ok a ha
 ·rw [eF ha];exact hx⟩
theorem EZ (hu:yZ ak)(hx:∀i,i<ak.length->(ak.getD i dA).dD=x.dD->(ak.getD i dA).c.number<x.c.number):yZ (ak++ [x]):=⟨λi j SQ hj hw=>by
 rw [fS (by rw [aL] at hj;have:j<ak.length+1:=hj;lia:i<ak.length)] at hw⊢
 rcases tX hj with ⟨h1,h2⟩|⟨h1,h2⟩
 ·rw [h2] at hw⊢
  exact hu.up i j SQ h1 hw
 ·rw [h2] at hw⊢
  exact hx i (by lia) hw⟩
end
noncomputable def fL (m:Nat):List bo->Nat
 | []=>m
 |e::r=>fL e.mem r
noncomputable def eI (t:Int):List bo->Int
 | []=>t
 |e::r=>eI e.term r
theorem nW:∀{es:List bo} {m:Nat},fL m (es++ [e])=e.mem
 | [],_=>rfl
 |x::r,_=>nW (es:=r)
theorem om:∀{es:List bo} {t:Int},eI t (es++ [e])=e.term
 | [],_=>rfl
 |x::r,_=>om (es:=r)
theorem ji:∀{es:List bo} {a:AS} {m:Nat},a.aP=dC (fP m)->(eh ak a es).aP=dC (fP (fL m es))
 | [],_,_,h=>h
 |e::r,a,m,_=>ji (es:=r) (a:=pI ak a e) rfl
theorem mV {ak:List bg}:∀{es:List bo} {a:AS},(eh ak a es).term=eI a.term es
 | [],_=>rfl
 |e::r,a=>mV (es:=r) (a:=pI ak a e)
structure jQ (H:HP)(ak:List bg)(idx:Int)(pm:Nat)(e:bo):Prop where
 ex:∃er kind data cm,e.er= .ref er/\H[er]? =some (kZ e.term idx kind data)/\f9 kind data (kF ak e.one)/\oq H e.cr cm/\(cm=none/\e.mem=pm∨cm=some (fP e.mem))
 t0:0<=e.term
 t1:e.term<1000
 m1:e.mem<=40
noncomputable def gb (H:HP)(ak:List bg):Nat->Nat->List bo->Prop
 |_,_, []=>True
 |i,pm,e::r=>jQ H ak ((i:Int)+1) pm e/\gb H ak (i+1) e.mem r
theorem uJ:∀{es:List bo} {i pm:Nat},gb H ak i pm es->jQ H ak (((i+es.length:Nat):Int)+1) (fL pm es) e->gb H ak i pm (es++ [e])
 | [],_,_,_,h=>⟨h,trivial⟩
 |x::r,i,pm,h,h2=>⟨h.1,uJ (es:=r) h.2 (by rw [show i+1+r.length=i+(x::r).length by rw [dq];lia];exact h2)⟩
theorem xE:∀{es:List bo} {i pm j:Nat},gb H ak i pm es->es[j]? =some e->jQ H ak (((i+j:Nat):Int)+1) (fL pm (es.take j)) e
 | [],_,_,_,_,h=>nomatch h
 |x::r,i,pm,0,h,h2=>by cases h2;exact h.1
 |x::r,i,pm,j+1,h,h2=>by
  have:=xE (es:=r) (j:=j) h.2 h2
  rw [show i+1+j=i+(j+1) by lia] at this
  exact this
noncomputable def qL (o:SO):Prop:=∀t r,o= .list (.tuple t::r)->t.length<5
noncomputable def Kl (H H' :HP):Prop:=∀(j:Nat) (o:SO),qL o->H[j]? =some o->H'[j]? =some o
noncomputable def TM (H H' :HP):Prop:=∀(j:Nat) (o:SO),qL o->o≠ .list []->H[j]? =some o->H'[j]? =some o
theorem Kl.Rk (h:Kl H H'):TM H H' :=λj o a u8 e=>h j o a e
theorem Kl.trans {H H1 H2:HP}(a:Kl H H1)(b:Kl H1 H2):Kl H H2:=λj o n e=>b j o n (a j o n e)
theorem Ke.kl (h:Ke H H'):Kl H H' :=λj o u8 e=>h j o e
theorem Fb {j:Nat}(h:H[j]? =some (.list (.tuple t::r)))(ht:5<=t.length):Kl H (H.set j o):=λi x n e=>bQ (λq=>by
 rw [q,h] at e
 cases e
 exact absurd (n t r rfl) (by lia)) e
theorem jE {c:Nat}:qL (.inst c fs):=λu8 u8 h=>nomatch h
theorem l6:qL (.list (iL xs)):=λt r h=>by cases xs<;>cases h
theorem CZ {ops:List Op}:qL (.list (ops.map Op.sv)):=λt r h=>by
 cases ops with
 |nil=>cases h
 |cons o q=>cases o<;>(cases h;exact (by decide:3<5))
theorem AB {bl:List (Nat×List Op)}:qL (.list (bl.map λp=> .ref p.1)):=λt r h=>by cases bl<;>cases h
theorem tS (h:dP U so D):qL so/\so≠ .list []:=by
 obtain ⟨es,e|⟨e,_⟩,_⟩:=h.ex<;>(subst e;exact ⟨λu8 u8 z=>(nomatch z),λz=>(nomatch z)⟩)
theorem d0.kl {k:Nat}(h:d0 H k xs)(g:Kl H H'):d0 H' k xs:=by
 refine BL h.ex λv a b c h1 h2 h3 h4 h5=> ?_
 exact ⟨v,a,b,c,g _ _ jE h1,g _ _ l6 h2,g _ _ l6 h3,g _ _ l6 h4,g _ _ l6 h5⟩
theorem oq.kl (h:oq H v m)(g:Kl H H'):oq H' v m:=by
 cases h with
 |no=>exact .no
 |yes r xs h hx hl=>exact .yes r xs (h.kl g) hx hl
theorem jQ.kl {idx:Int}{pm:Nat}(h:jQ H ak idx pm e)(g:Kl H H'):jQ H' ak idx pm e:=by
 refine BL h.ex λer k d cm h1 h2 h3 h4 h5=> ?_
 exact ⟨⟨er,k,d,cm,h1,g _ _ jE h2,h3,h4.kl g,h5⟩,h.t0,h.t1,h.m1⟩
theorem jQ.kp {idx:Int}{pm:Nat}(h:jQ H ak idx pm e)(g:Kp H H'):jQ H' ak idx pm e:=by
 refine BL h.ex λer k d cm h1 h2 h3 h4 h5=> ?_
 exact ⟨⟨er,k,d,cm,h1,g _ _ h2 ⟨by decide,by decide⟩,h3,h4.kp g,h5⟩,h.t0,h.t1,h.m1⟩
theorem jQ.ask {x:bg}{idx:Int}{pm:Nat}(h:jQ H ak idx pm e)(ho:∀k,e.one=some k->k<ak.length):jQ H (ak++ [x]) idx pm e:=by
 refine BL h.ex λer k d cm h1 h2 h3 h4 h5=> ?_
 exact ⟨⟨er,k,d,cm,h1,h2,(zc ho).symm▸h3,h4,h5⟩,h.t0,h.t1,h.m1⟩
theorem gb.kl (g:Kl H H'):∀{es:List bo} {i pm:Nat},gb H ak i pm es->gb H' ak i pm es
 | [],_,_,_=>trivial
 |_::r,_,_,h=>⟨h.1.kl g,gb.kl g (es:=r) h.2⟩
theorem gb.kp (g:Kp H H'):∀{es:List bo} {i pm:Nat},gb H ak i pm es->gb H' ak i pm es
 | [],_,_,_=>trivial
 |_::r,_,_,h=>⟨h.1.kp g,gb.kp g (es:=r) h.2⟩
theorem gb.ask {x:bg}:∀{es:List bo} {i pm:Nat},gb H ak i pm es->(∀e∈es,∀k,e.one=some k->k<ak.length)->gb H (ak++ [x]) i pm es
 | [],_,_,_,_=>trivial
 |_::r,_,_,h,ho=>⟨h.1.ask (ho _ (.head _)),gb.ask (es:=r) h.2 λy hy=>ho y (.tail _ hy)⟩
theorem gb.ew:∀{i pm:Nat},gb H ak i pm es->EW ak es:=by
 induction es with
 |nil=>exact λu8 u8 he=>j1 he
 |cons y r ih=>
  intro i pm h x hx
  rcases cH hx with rfl|hx
  ·exact BL h.1.ex λer k d cm h1 h2 h3 h4 h5=>⟨k,d,h3⟩
  ·exact ih h.2 x hx
noncomputable def e0:bo:=⟨1,1, .none,none, .none⟩
noncomputable def a0:AS:=QX (dC (fP 1))
noncomputable def wx:List Op:= [Op.put [97] (fz 1 1 (dC (fP 1)))]
structure Mc where
 mi:Nat
 si:Nat
 di:Nat
 bi:Nat
structure MS (H:HP)(m:Mc)(sync:Bool)(ak:List bg)(es:List bo)(HF aU:Int)(bl:List (Nat×List Op)):Prop where
 hm:H[m.mi]? =some (aX m.si (eh ak a0 es).idx (eh ak a0 es).term (eh ak a0 es).aP HF sync)
 cI:eK H m.si m.di m.bi (fW (eh ak a0 es)) bl aU (fM bl)
 Pj:bl.map (·.2)=wx::jI ak a0 es
section
variable {H H' :HP}{m:Mc}{ak:List bg}{es:List bo}{e:bo}{HF aU:Int}{sync:Bool}{bl:List (Nat×List Op)}{pm:Nat}
theorem MS.len (q:MS H m sync ak es HF aU bl):bl.length=es.length+1:=by
 have:=congrArg List.length q.Pj
 rw [bI,dq,sQ] at this
 exact this
theorem MS.ne (q:MS H m sync ak es HF aU bl):bl≠ []:=λz=>by
 have:=q.len
 rw [z] at this
 exact Og this
theorem Ld:xb ak a e≠ []:=λh=>by
 unfold xb mz Ap at h
 exact absurd (congrArg List.length h) (by rw [aL];show ¬(_+1=0);lia)
theorem Jf:∀{a:AS},∀o∈jI ak a es,o≠ []:=by
 induction es with
 |nil=>exact λu8 h=>j1 h
 |cons x r ih=>exact λo h=>(cH h).elim (λe=>e▸Ld) (ih o)
theorem MS.tr (q:MS H m sync ak es HF aU bl)(g:TM H H'):MS H' m sync ak es HF aU bl:=by
 obtain ⟨h1,⟨s1,⟨so,d1,d2⟩,b1,o1⟩,h3⟩:=q
 have lG:∀p∈bl,p.2≠ []:=λp hp=>by
  have:p.2∈wx::jI ak a0 es:=h3▸ip hp
  rcases cH this with q|q
  ·rw [q];exact λz=>nomatch z
  ·exact Jf _ q
 have hb:bl≠ []:=λq=>by rw [q] at h3;cases h3
 exact ⟨g _ _ jE (λz=>nomatch z) h1,⟨g _ _ jE (λz=>nomatch z) s1,⟨so,g _ _ (tS d2).1 (tS d2).2 d1,d2⟩,g _ _ AB (λz=>by
  cases bl with
  |nil=>exact hb rfl
  |cons _ _=>cases z) b1,λp hp=>⟨g _ _ CZ (λz=>by
   cases q:p.2 with
   |nil=>exact lG p hp q
   |cons _ _=>rw [q] at z;cases z) (o1 p hp).1,(o1 p hp).2⟩⟩,h3⟩
theorem MS.ask {x:bg}(q:MS H m sync ak es HF aU bl)(ho:∀e∈es,∀k,e.one=some k->k<ak.length):MS H m sync (ak++ [x]) es HF aU bl:=by
 obtain ⟨h1,h2⟩:=Bl (x:=x) (a:=a0) ho
 obtain ⟨a,b,c⟩:=q
 exact ⟨by rw [h1];exact a,by rw [h1];exact b,by rw [h2];exact c⟩
theorem L5 {n:Nat}(hs:pL ak s a)(hr:ga ak s n)(mf:lX ak)(hn:n<=40)(hc:a.aP.length<100)(i0:0<=a.idx)(i1:a.idx<1000):oa a:=by
 refine ⟨hc,λw=>⟨λq hq=> ?_⟩,λk b h=> ?_,i0,i1⟩
 ·rw [hs.S] at hq
  unfold jo at hq
  cases z:(s.done w).getLast? with
  |none=>rw [z] at hq;exact nh hq
  |some k=>
   rw [z] at hq
   cases hq
   have hk:=hr.dk w k (kG z)
   have hb:=(mf.ok _ (jS hk)).1
   have ht:=(hs.dw w k (kG z)).1
   refine ⟨hb.n0,hb.n1, ?_⟩
   show (s.told.getD k []).length<128
   rw [List.getD_eq_getElem?_getD,eV ht]
   have:=hr.tl _ (List.getElem_mem ht)
   show (s.told[k]).length<128
   lia
 ·rw [<-hs.now] at h
  have:=hr.nw k b h
  lia
theorem CE (m:Nat)(h:m<=40):(dC (fP m)).length<100:=by
 unfold dC jg
 rw [aL,dq,tN]
 show _+4<100
 lia
theorem Bc (q:MS H m sync ak es HF aU bl)(he:jQ H ak ((es.length:Int)+2) pm e)(YS:(eh ak a0 es).aP=dC (fP pm))(ha:oa (eh ak a0 es))(hl:es.length<100)(d:Nat){C:Prop}
  (K:∀H' er r,e.er= .ref er->run P (d+7) 74 [.ref m.mi, .ref er,e.cr] H= .ok (ob (mA (eh ak a0 es) (kF ak e.one))) H'->MS H' m sync ak (es++ [e]) (bif sync then (es.length:Int)+2 else HF) (bif sync then (es.length:Int)+2 else aU) (bl++ [(r,xb ak (eh ak a0 es) e)])->Kp H H'->C):C:=by
 refine BL he.ex λer kind data cm h1 h2 h3 h4 h5=> ?_
 have hi:(eh ak a0 es).idx+1=(es.length:Int)+2:=by
  rw [sJ]
  show (1:Int)+(es.length:Int)+1=_
  lia
 have Vh:wz (eh ak a0 es).aP cm=dC (fP e.mem):=by
  rcases h5 with ⟨h,h'⟩|h
  ·rw [h,h',<-YS];rfl
  ·rw [h];rfl
 have xW:=q.len
 refine MD q.hm q.cI q.ne (by lia) (hi▸h2) h3 h4 ha he.t0 he.t1 d λH1 r e1 m1 s1 k1=>K H1 er r h1 e1 ⟨?_, ?_, ?_⟩ k1
 ·rw [qr,<-hi]
  rw [Vh] at m1
  exact m1
 ·have hk:(bif sync then ((bl.length+1:Nat):Int) else aU)=bif sync then (es.length:Int)+2 else aU:=congrArg (cond sync · aU) (by rw [xW];rfl)
  rw [Vh,hk] at s1
  rw [qr,lf]
  exact s1
 ·rw [eG,q.Pj,uR];rfl
end
noncomputable def yL:cA:=tD (cK (bx 12 un))
noncomputable def Hc:SS:=cK (bx 7 yL)
noncomputable def J9:cA:=nN Hc
theorem Ds {α:Type}{l:List α}{j:Nat}{e:α}(h:l[j]? =some e):l.take (j+1)=l.take j++ [e]:=by
 rw [List.take_add_one,h];rfl
theorem wo:∀{es:List bo} {x e:bo} {j:Nat},(x::es)[j]? =some e->fL x.mem (es.take j)=e.mem/\eI x.term (es.take j)=e.term
 |es,x,e,0,h=>by cases h;exact ⟨rfl,rfl⟩
 | [],x,e,j+1,h=>nomatch h
 |y::r,x,e,j+1,h=>wo (es:=r) (x:=y) (j:=j) h
theorem EU {es:List bo}{j:Nat}(h:es[j]? =some e):(es.map bo.sv)[j]? =some e.sv:=by rw [iW,h];rfl
theorem qn {α:Type}{f:α->SV}(h:∀x,Kr (f x)){l:List α}:nx (.list (l.map f)):=λu8 hv=>let ⟨x,_,e⟩:=gH hv;e▸h x
theorem mY {es:List bo}:nx (.list (es.map bo.sv)):=qn (f:=bo.sv) λu8=>True.intro
theorem sX {ak:List bg}:nx (.list (ak.map bg.sv)):=qn (f:=bg.sv) λu8=>True.intro
theorem ub {rs:List (Option By)}:nx (.list (rs.map ob)):=qn λx=>by cases x<;>exact True.intro
theorem Ej {lo hi:Int}{k:Nat}(h:lo+(k:Int)<hi):ct (.range lo hi) k H=some (some (.int (lo+k))):=congrArg some (if_pos h)
theorem Ew {lo hi:Int}{k:Nat}(h:¬lo+(k:Int)<hi):ct (.range lo hi) k H=some none:=congrArg some (if_neg h)
theorem DB {x:Int}:(bif b then x else x)=x:=by cases b<;>rfl
theorem CB {x y z:Int}:(bif b then x else bif b then y else z)=bif b then x else z:=by cases b<;>rfl
section
variable {m:Mc}{lg fQ:Nat}{ak:List bg}{es:List bo}{sync:Bool}
theorem Az {rp k:Nat}{s:Int}(YG:∀j,oa (eh ak a0 (es.take j)))(em:es.length<40)(d:Nat){L:Option SV->cR}(h5:∀v,(L v)[5]? =some (some (.ref m.mi)))(h6:∀v,(L v)[6]? =some (some (.ref lg)))
  (La:∀v,(L (some v))[14]? =some (some v)) (Zb:∀v,(L v)[22]? =some (some (.ref rp))) (hs:∀v w,al (L v) 14 w=L (some w)) {C:Prop} (n:Nat):
  ∀(i:Nat) (H:HP) (bl:List (Nat×List Op)) (y:Option SV),k+i+n=es.length->MS H m sync ak (es.take (k+i)) (bif sync then ((k+i+1:Nat):Int) else s) (bif sync then ((k+i+1:Nat):Int) else s) bl->gb H ak 1 1 es->
   H[lg]? =some (.list ((e0::es).map bo.sv))->H[rp]? =some (.list (([none]++nM ak a0 es).map ob))->
   (K:∀H' vt z,forLoop [14] (λl H=>aK P (run P (d+7)) (tD (cK (bx 10 J9))) l H) (.range ((k+1:Nat):Int) ((es.length+1:Nat):Int)) (n+1) i (L y) H= .next (L z) H'->
    MS H' m sync ak es (bif sync then ((es.length+1:Nat):Int) else s) (bif sync then ((es.length+1:Nat):Int) else s) vt->Kp H H'->C)->C:=by
 induction n with
 |zero=>
  intro i H bl y hn hm hE hL hR K
  have hn:k+i=es.length:=hn
  rw [hn,List.take_length] at hm
  exact K H bl y (jr (Ew (by lia))) hm λu8 u8 e u8=>e
 |succ n ih=>
  intro i H bl y hn hm hE hL hR K
  have lO:k+i<es.length:=by lia
  have he:=eV lO
  generalize es[k+i]=e at he
  have HX:(es.take (k+i)).length=k+i:=List.length_take_of_le (Nat.le_of_lt lO)
  have Hj:=xE hE he
  rw [show (((1+(k+i):Nat):Int)+1)=(((es.take (k+i)).length:Nat):Int)+2 by rw [HX];lia] at Hj
  refine Bc hm Hj (ji (m:=1) rfl) (YG _) (by rw [HX];exact dR lO (dR em (by decide))) d λH1 er r h1 e1 m1 k1=> ?_
  rw [<-Ds he,HX,CB] at m1
  have ci:((k+1:Nat):Int)+(i:Nat)=((k+i+1:Nat):Int):=by lia
  have lk:dH (.ref lg) (.int (((k+1:Nat):Int)+(i:Nat))) H= .ok e.sv H:=ci▸gG hL (EU (es:=e0::es) he)
  have rk:dH (.ref rp) (.int (((k+1:Nat):Int)+(i:Nat))) H1= .ok (ob (mA (eh ak a0 (es.take (k+i))) (kF ak e.one))) H1:=ci▸gG (k1 _ _ hR ub) (by
   show ((nM ak a0 es).map ob)[k+i]? =_
   rw [iW,vg he];rfl)
  exact ih (i+1) H1 _ (some (.int (((k+1:Nat):Int)+(i:Nat)))) (by lia) m1 (hE.kp k1) (k1 _ _ hL mY) (k1 _ _ hR ub) λH2 OM z c1 c2 c3=>
   K H2 OM z (fA (Ej (by lia)) (congrArg some (hs _ _)) (ae (cD (an (aw (q:= .fn 74) (v:= .ref m.mi) (R:=run P (d+7)) (bc (h5 _)) (bN hm.hm) (aa (v:= .ref er) (aN (aN (bc (h6 _)) (bc (La _)) lk) rfl (o:= .ok (.ref er) _) (by rw [<-h1];rfl)) (aa (v:=e.cr) (aN (aN (bc (h6 _)) (bc (La _)) lk) rfl (o:= .ok e.cr _) rfl) af)) e1)
    (aN (bc (Zb _)) (bc (La _)) rk) (wK _ _)) aj) aj) c1) c2 (k1.trans c3)
end
structure Wd where
 nm:Nat
 lg:Nat
 fQ:Nat
 ns:List Int
 sync:Bool
structure ig (H:HP)(w:Wd)(m:Mc)(ak:List bg)(es:List bo)(a7:Nat)(bl:List (Nat×List Op))(tc:Nat):Prop where
 hn:H[w.nm]? =some (.list (iL w.ns))
 n0:w.ns.length≠0
 n1:w.ns.length<1000
 hL:H[w.lg]? =some (.list ((e0::es).map bo.sv))
 hA:H[w.fQ]? =some (.list (ak.map bg.sv))
 ms:MS H m w.sync ak es a7 a7 bl
 hE:gb H ak 1 1 es
 ok:lX ak
 up:yZ ak
 wf:n8 ak mT (e0::es)
 told:(cE ak mT (e0::es)).told.length=tc
 num:∀a∈ak,a.c.number<=126+2*(ak.length:Int)
 len:es.length<=20
 HK:tc<=es.length
 s1:1<=a7
 s2:a7<=es.length+1
 s3:w.sync=true->a7=es.length+1
 t0:0<=eI 1 es
 t1:eI 1 es<=1+es.length
 m1:1<=fL 1 es
 m3:fL 1 es<=3
 ne:ak= []->es= []
theorem pY:∀{es:List bo} {s:RS} (j:Nat),n8 ak s es->n8 ak s (es.take j)
 | [],_,_,_=>by rw [List.take_nil];trivial
 |_::_,_,0,_=>trivial
 |_::r,_,j+1,h=>⟨h.1,pY (es:=r) j h.2⟩
noncomputable def Va:RS:=⟨[none], [1],λu8=>none,λu8=> [], [], []⟩
theorem JR:pL ak Va a0:=⟨rfl,λu8=>rfl,λu8 u8 h=>(j1 h),λu8 h=>absurd h (Nat.not_lt_zero _),rfl⟩
theorem Lv:ga ak Va 1:=⟨bS _,bS _,Nat.zero_le _,rfl,λu8=>Nat.zero_le _,λu8 u8 h=>(j1 h),λu8 u8 h=>(nomatch h),λu8 h=>(j1 h)⟩
section
variable {H:HP}{w:Wd}{m:Mc}{ak:List bg}{es:List bo}{a7:Nat}{bl:List (Nat×List Op)}{tc:Nat}
theorem ig.sim (v:ig H w m ak es a7 bl tc)(j:Nat):pL ak (cE ak mT (e0::es.take j)) (eh ak a0 (es.take j))/\(cE ak mT (e0::es.take j)).fB= [none]++nM ak a0 (es.take j)/\(cE ak mT (e0::es.take j)).ec= [1]++(jI ak a0 (es.take j)).map λo=>(o.length:Int):=
 AN (es:=es.take j) v.up v.ok JR (pY j v.wf.2)
theorem ig.rs (v:ig H w m ak es a7 bl tc)(j:Nat):ga ak (cE ak mT (e0::es.take j)) (1+(es.take j).length):=uU (es:=es.take j) v.ok Lv (pY j v.wf.2)
theorem tW {α:Type}{l:List α}:l.take l.length=l:=List.take_length
theorem ig.MB (v:ig H w m ak es a7 bl tc):pL ak (cE ak mT (e0::es)) (eh ak a0 es)/\(cE ak mT (e0::es)).fB= [none]++nM ak a0 es/\(cE ak mT (e0::es)).ec= [1]++(jI ak a0 es).map λo=>(o.length:Int):=tW (l:=es)▸v.sim es.length
theorem ig.VI (v:ig H w m ak es a7 bl tc):ga ak (cE ak mT (e0::es)) (1+es.length):=tW (l:=es)▸v.rs es.length
theorem kW:∀{es:List bo} {i pm:Nat},gb H ak i pm es->pm<=40->fL pm es<=40
 | [],_,_,_,h=>h
 |_::r,_,_,h,_=>kW (es:=r) h.2 h.1.m1
theorem tV:∀{es:List bo} {i pm:Nat} {t:Int},gb H ak i pm es->0<=t->t<1000->0<=eI t es/\eI t es<1000
 | [],_,_,_,_,h1,h2=>⟨h1,h2⟩
 |_::r,_,_,_,h,_,_=>tV (es:=r) h.2 h.1.t0 h.1.t1
theorem mP:∀{es:List bo} {i pm:Nat} (j:Nat),gb H ak i pm es->gb H ak i pm (es.take j)
 | [],_,_,_,_=>by rw [List.take_nil];trivial
 |_::_,_,_,0,_=>trivial
 |_::r,_,_,j+1,h=>⟨h.1,mP (es:=r) j h.2⟩
theorem lm {ak:List bg}:(eh ak a0 es).idx=((es.length+1:Nat):Int):=sJ.trans (Int.add_comm _ _)
theorem ig.Ub (v:ig H w m ak es a7 bl tc)(j:Nat):oa (eh ak a0 (es.take j)):=by
 have HX:(es.take j).length<=20:=cy (by rw [List.length_take];exact Nat.min_le_right _ _) v.len
 refine L5 (v.sim j).1 (v.rs j) v.ok (by lia) ?_ ?_ ?_
 ·rw [ji (m:=1) rfl]
  exact CE _ (kW (mP j v.hE) (by decide))
 ·rw [lm];exact fD _
 ·rw [lm];lia
theorem ig.Ow (v:ig H w m ak es a7 bl tc):oa (eh ak a0 es):=tW (l:=es)▸v.Ub es.length
end
theorem AK (m:Nat):(fP m).Pairwise (·< ·):=List.pairwise_map.mpr (List.pairwise_lt_range.imp λh=>by lia)
theorem AQ {m:Nat}(h:m<=40):∀x∈fP m,0<=x/\x<128:=λx hx=>by
 refine aZ (gH hx) λk hk dc=> ?_;subst dc
 have:=List.mem_range.mp hk
 lia
theorem CQ {lo hi:Int}{m:Nat}(e:fq lo hi=fP m):Mine.bH Bi.tuple [.range lo hi] H= .ok (.tuple (iL (fP m))) H:=congrArg (λl=>du.ok (SV.tuple (iL l)) H) e
theorem UE:∀v∈iL xs,Dp 1 v:=λv hv=>by
 refine aZ (gH hv) λx u8 dc=> ?_;subst dc
 trivial
noncomputable def gO (w:Wd)(m:Mc)(s c:Int)(f:Nat->Option SV):cR:= [f 0,f 1,some (.ref w.nm),f 3,some (.ref m.si),some (.ref m.mi),some (.ref w.lg),some (.ref w.fQ),some (.int s),some (.int c),
 f 10,f 11,f 12,f 13,f 14,f 15,f 16,f 17,f 18,f 19,f 20,f 21,f 22,f 23,f 24,f 25,f 26,f 27,f 28,f 29,f 30,f 31,f 32,f 33,f 34,f 35,f 36,f 37]
structure Dr where
 x:Int
 act:Int
 y:Int
 w:Bool
 mr:Nat
noncomputable def Ih (f:Nat->Option SV)(a:Dr)(n:Nat):Nat->Option SV
 |1=>some (.int a.x)
 |11=>some (.int a.act)
 |12=>some (.int a.y)
 |13=>some (.int (wi a.w))
 |15=>some (.ref a.mr)
 |16=>some (.int n)
 |k=>f k
noncomputable def vN (w:Wd)(m:Mc)(s c:Int)(f:Nat->Option SV)(a:Dr)(n:Nat):cR:=gO w m s c (Ih f a n)
structure En where
 term:Int
 cf:SV
 mem:Nat
 one:Int
 kind:Int
 data:Option SV
noncomputable def Sx (f:Nat->Option SV)(b:En):Nat->Option SV
 |19=>some (.int b.term)
 |20=>some b.cf
 |21=>some (.int b.mem)
 |24=>some (.int b.one)
 |25=>some (.int b.kind)
 |26=>b.data
 |k=>f k
noncomputable def gM (w:Wd)(m:Mc)(s c:Int)(f:Nat->Option SV)(a:Dr)(n:Nat)(b:En):cR:=gO w m s c (Sx (Ih f a n) b)
theorem F5 {es:List bo}{k:Nat}(hw:EW ak es){bl:List (Nat×List Op)}(hb:bl.map (·.2)=wx::jI ak a0 es):
  (bl.take (k+1)).map (·.2)=wx::jI ak a0 (es.take k)/\pV (bl.take (k+1)) jU=fW (eh ak a0 (es.take k)):=by
 have e1:(bl.take (k+1)).map (·.2)=wx::jI ak a0 (es.take k):=by
  rw [List.map_take,hb]
  exact congrArg (wx:: ·) (vH k)
 refine ⟨e1, ?_⟩
 rw [Br,e1]
 show Et (jI ak a0 (es.take k)) (eT wx jU)=_
 rw [show eT wx jU=fW a0 from Bh _]
 exact xS λe he=>hw e (List.mem_of_mem_take he)
theorem Qp {n:Nat}:Dp (n+2) (.tuple (iL xs)):=zP λu8=>trivial
noncomputable def Rn (xs:List Int):SV:= .tuple [.tuple (iL xs), .tuple [], .tuple [], .tuple [], .bool false]
theorem JD {a b d:Int}:Dp 6 (.tuple [.int a, .int b,Rn xs, .int d]):=
 bO trivial (bO trivial (bO (bO Qp (bO i5 (bO i5 (bO i5 (bO trivial i5))))) (bO trivial i5)))
theorem Ek {a7 n:Nat}(h1:1<=a7)(h2:a7<=n+1)(y:Int){C:Prop}(K:∀k:Nat,(a7:Int)+y%(((n+1:Nat):Int) - a7+1)=((k+1:Nat):Int)->k<=n->C):C:=by
 have h0:=Int.emod_nonneg y (show ((n+1:Nat):Int) - a7+1≠0 by lia)
 have h1:=Int.emod_lt_of_pos y (show (0:Int)<((n+1:Nat):Int) - a7+1 by lia)
 generalize y%(((n+1:Nat):Int) - a7+1)=z at*
 obtain ⟨z,rfl⟩:=Int.eq_ofNat_of_zero_le h0
 exact K (a7+z - 1) (by lia) (by lia)
theorem Im {k:Nat}(h:k<=es.length){C:Prop}(K:∀ek,(e0::es)[k]? =some ek->fL 1 (es.take k)=ek.mem->eI 1 (es.take k)=ek.term->C):C:=
 have e:=eV (l:=e0::es) (Nat.lt_succ_of_le h)
 K _ e (wo e).1 (wo e).2
theorem B6 {si:Nat}:bD P (.ref H.length) 59 (.bool b) (H++ [aX si 0 0 [] 0 false])=some (H++ [aX si 0 0 [] 0 b]):=
 have h:(H++ [aX si 0 0 [] 0 false])[H.length]? =some (aX si 0 0 [] 0 false):=dU ..
 (mm h rfl (show 6<100 by decide) rfl).trans (congrArg some x4)
theorem F6 (x:Kx [H.length] (H++ [o]) H'):Ke H H' :=λi u8 e=>
 x i _ (λq=>Nat.lt_irrefl i ((eF q).symm▸(gw e).1)) (Gr.at ⟨_,rfl⟩ e)
theorem DR {H H2:HP}{s k:Nat}{es:List bo}{ek:bo}{bl:List (Nat×List Op)}(hE:gb H ak 1 1 es)(hb:bl.map (·.2)=wx::jI ak a0 es)(ha:oa (eh ak a0 (es.take k)))(hk:k<=es.length)(hm:fL 1 (es.take k)=ek.mem)(ht:eI 1 (es.take k)=ek.term)
  (st:eK H2 s (s+1) (s+2) (pV (bl.take (k+1)) jU) (bl.take (k+1)) ((k+1:Nat):Int) (fM (bl.take (k+1)))) (d:Nat) {C:Prop}
  (K:∀H5 kr,run P (d+7) 70 [.ref H2.length] (H2++ [aX s 0 0 [] 0 sync])= .ok (.tuple [.int ((k+1:Nat):Int), .int ek.term, .ref kr]) H5->d0 H5 kr (fP ek.mem)->MS H5 ⟨H2.length,s,s+1,s+2⟩ sync ak (es.take k) ((k+1:Nat):Int) ((k+1:Nat):Int) (bl.take (k+1))->Ke H2 H5->C):C:=by
 obtain ⟨QS,hd2⟩:=F5 (k:=k) hE.ew hb
 rw [hd2] at st
 have Vm:=mP k hE
 have Mt:=kW Vm (show 1<=40 by decide)
 have Un:=tV (t:=1) Vm (by decide) (by decide)
 have hl:=congrArg List.length QS
 rw [bI,dq,sQ,List.length_take_of_le hk] at hl
 have hi:=lm (ak:=ak) (es:=es.take k)
 rw [List.length_take_of_le hk] at hi
 have OZ:(eh ak a0 (es.take k)).term=ek.term:=mV.trans ht
 rw [hm] at Mt
 refine O4 (xs:=fP ek.mem) (sync:=sync) (dU ..) (st.gr ⟨[aX s 0 0 [] 0 sync],rfl⟩) (by rw [hl]) ha (by rw [OZ,<-ht];exact Un.1) (by rw [OZ,<-ht];exact Un.2) (by rw [ji (m:=1) rfl,hm]) (AK _) (λx hx=>(AQ Mt x hx).2) (by rw [tN];exact lC ‹_› rfl) (d+2) λH5 kr e5 c5 m5 x5=> ?_
 rw [hi,OZ] at e5
 exact K H5 kr e5 c5 ⟨hi▸m5,st.ke (F6 x5),QS⟩ (F6 x5)
noncomputable def NS (f:Nat->Option SV)(mi:Nat)(keep term:Int)(kr:Nat)(cv:SV)(rp:Nat)(z:Option SV):Nat->Option SV
 |14=>z
 |17=>some (.ref mi)
 |18=>some (.int keep)
 |19=>some (.int term)
 |20=>some (.ref kr)
 |21=>some cv
 |22=>some (.ref rp)
 |k=>f k
theorem Hq {k:Nat}:((k+1:Nat):Int) - 1=(k:Int):=Int.add_sub_cancel (k:Int) 1
section
variable {H:HP}{w:Wd}{m:Mc}{ak:List bg}{es:List bo}{a7:Nat}{bl:List (Nat×List Op)}{tc:Nat}
theorem ig.Me {cC:Nat}(v:ig H w m ak es a7 bl tc)(k:Kp H H')(q:MS H' m' w.sync ak es cC cC vt)(h1:1<=cC)(h2:cC<=es.length+1)(h3:w.sync=true->cC=es.length+1):ig H' w m' ak es cC vt tc:=
 {v with hn:=k _ _ v.hn (kh _),hL:=k _ _ v.hL mY,hA:=k _ _ v.hA sX,ms:=q,hE:=v.hE.kp k,s1:=h1,s2:=h2,s3:=h3}
theorem JH (v:ig H w m ak es a7 bl tc)(a:Dr)(f:Nat->Option SV)(cuts:Int)(d:Nat){C:Prop}
  (K:∀f' H' m' cC vt,aK P (run P (d+7)) J9 (vN w m a7 cuts f a (es.length+1)) H= .next (gO w m' (cC:Nat) 1 f') H'->ig H' w m' ak es cC vt tc->C):C:=by
 refine Ek v.s1 v.s2 a.y λk hk LU=>Im LU λek Xs U6 het=> ?_
 have xW:=v.ms.len
 refine Tf (aU:=a7) (pick:=a.y) (keep:=k+1) v.ms.cI (xW▸v.s2) (by have:=v.len;lia) (xW▸hk) (d+5) λH2 e2 XJ k2=> ?_
 refine DR (sync:=w.sync) v.hE v.ms.Pj (v.Ub k) LU U6 het XJ d λH5 kr e5 c5 m5 k5=> ?_
 have k5:=k2.trans k5
 have Mt:ek.mem<=40:=U6▸kW (mP k v.hE) (by decide)
 have lk:∀{H' :HP},Ke H H'->dH (.ref w.lg) (.int (((k+1:Nat):Int) - 1)) H' = .ok ek.sv H' :=λh=>Hq (k:=k)▸gG (h _ _ v.hL) (EU Xs)
 refine px v.ok (k5 _ _ v.hA) (k5 _ _ v.hL) v.wf (show es.length+1<40 by have:=v.len;lia) (d+5) λso H6 Q3 g6 rd u8=> ?_
 have hr:=rd.fB
 rw [v.MB.2.1] at hr
 have k6:=k5.trans g6.ke
 have m6:=m5.tr g6.ke.kl.Rk
 generalize H5.length=rp at*
 refine Az (lg:=w.lg) (k:=k) (s:=((k+1:Nat):Int)) v.Ub (by have:=v.len;exact lC ‹_› rfl) d (L:=λz=>gO w ⟨H2.length,H.length,H.length+1,H.length+2⟩ ((k+1:Nat):Int) 1 (NS (Ih f a (es.length+1)) H2.length ((k+1:Nat):Int) ek.term kr (Rn (fP ek.mem)) rp z)) (λu8=>rfl) (λu8=>rfl) (λu8=>rfl) (λu8=>rfl) (λu8 u8=>rfl) (es.length - k) 0 H6 _ (f 14) (by lia) (by rw [DB];exact m6) (gb.kl k6.kl v.hE) (k6 _ _ v.hL) hr λH7 UU XU XD m7 k7=> ?_
 have hN:fa (.range ((k+1:Nat):Int) ((es.length+1:Nat):Int)) H6=es.length - k:=by
  show ((((es.length+1:Nat):Int)) - ((k+1:Nat):Int)).toNat=_
  lia
 have kp:Kp H H7:=k6.kp.trans k7
 have go:∀{o:cQ},aK P (run P (d+7)) (bx 11 J9) (gO w ⟨H2.length,H.length,H.length+1,H.length+2⟩ ((k+1:Nat):Int) 1 (NS (Ih f a (es.length+1)) H2.length ((k+1:Nat):Int) ek.term kr (Rn (fP ek.mem)) rp XU)) H7=o->aK P (run P (d+7)) J9 (vN w m a7 cuts f a (es.length+1)) H=o:=λ{o} ho=>
  ae (bJ rfl) (ae (bJ (aw (q:= .fn 92) (v:= .ref m.si) rfl (bN v.ms.cI.st) (aa rfl af) e2)) (ae (bJ (v:= .int ((k+1:Nat):Int)) (aJ (x:= .int a7) (y:= .int (a.y%(((es.length+1:Nat):Int) - a7+1))) rfl (aJ rfl (aJ (aJ rfl rfl rfl) rfl rfl) (fG (by have:=v.s2;lia) (by have:=v.len;lia))) (congrArg (λz=>du.ok (SV.int z) H2) hk)))
   (ae (bJ (lF (aa rfl af) rfl (xl (d+6) H2))) (ae (bV (aF rfl (Gr.at ⟨_,rfl⟩ (k2 _ _ v.ms.hm)) rfl) rfl B6) (ae (bJ rfl) (ae (lz (vs:= [.int ((k+1:Nat):Int), .int ek.term, .ref kr]) (aw (q:= .fn 70) (v:= .ref H2.length) rfl (bN (dU ..)) af e5) rfl)
   (ae (bJ (v:=Rn (fP ek.mem)) (db (aa (bu (aa (bu (aa rfl (aa (aJ (aN (aN rfl (aJ rfl rfl rfl) (lk k5)) rfl (o:= .ok (.int ek.mem) _) rfl) rfl rfl) af)) (jM (by decide) (by lia) (by lia))) af) (CQ (tv ek.mem))) (aa (db af) (aa (db af) (aa (db af) (aa rfl af)))))))
   (ae (cD (an (db (aa rfl (aa rfl (aa (aw (q:= .fn 51) (v:= .ref kr) (R:=run P (d+7)) rfl (by obtain ⟨v1,a1,b1,c1,hc,_⟩:=c5.ex;exact bN hc) af (C7 c5 (d+6))) (aa (aF rfl m5.hm rfl) af))))) (db (aa rfl (aa (v:= .int ek.term) (aN (aN rfl (aJ rfl rfl rfl) (lk k5)) rfl (o:= .ok (.int ek.term) _) rfl) (aa rfl (aa rfl af))))) (rY (λu8 z=>nomatch z) JD)) aj)
   (ae (bJ (v:= .ref rp) (aN (cz (aa rfl (aa rfl af)) Q3) rfl rfl)) (ae (f_ (v:= .range ((k+1:Nat):Int) ((es.length+1:Nat):Int)) (bu (aa rfl (aa rfl af)) (jM (by exact fD _) (by lia) (by have:=v.len;lia))) (by rw [hN];exact XD)) ho))))))))))
 rcases Bool.eq_false_or_eq_true w.sync with hs|hs
 ·rw [hs] at m7
  exact K _ H7 _ (es.length+1) UU (nc (gO w _ ((es.length+1:Nat):Int) 1) (go (ae (eZ (qy (aF rfl m7.hm (hs▸rfl))) (ae (bJ rfl) aj)) aj)) rfl) (v.Me kp (hs▸m7) (Nat.succ_pos _) (bS _) λu8=>rfl)
 ·rw [hs] at m7
  exact K _ H7 _ (k+1) UU (go (ae (cD (qy (aF rfl m7.hm (hs▸rfl))) aj) aj)) (v.Me kp (hs▸m7) (Nat.succ_pos _) (Nat.succ_le_succ LU) λz=>nomatch hs.symm.trans z)
end
noncomputable def Q7:SS->cA
 | .lM b _ _=>b
 |_=> .nil
noncomputable def Qn:cA:=nN (cK (kJ Hc))
noncomputable def Qw:cA:=nN (cK (kJ (cK (kJ Hc))))
noncomputable def wn:cA:=kJ (cK (kJ (cK (kJ Hc))))
theorem vd (t i k:Int)(b:By)(d:Nat)(H:HP):run P (d+1) 45 [.ref H.length, .int t, .int i, .int k, .bytes b] (H++ [.inst 12 []])= .ok .none (H++ [kZ t i k b]):=
 bW rfl rfl (ae (bV rfl rfl (ja (fs' := [(62, .int t)]) rfl (show 0<100 by decide) rfl)) (ae (bV rfl rfl (ja (fs' := [(62, .int t),(28, .int i)]) rfl (show 1<100 by decide) rfl))
  (ae (bV rfl rfl (ja (fs' := [(62, .int t),(28, .int i),(32, .int k)]) rfl (show 2<100 by decide) rfl)) (ae (bV rfl rfl (ja rfl (show 3<100 by decide) rfl)) aj))))
theorem pw {H H1:HP}{r:Nat}(d:Nat)(h:bj P (run P (d+2)) e l H= .ok (.ref r) H1)(g:Gr H H1)(hr:H1[r]? =some (.list (iL xs)))(hp:xs.Pairwise (·< ·))(hl:xs.length<64){C:Prop}
  (K:∀H' k,bj P (run P (d+2)) (.callC 13 (.cons e (.cons (.list .nil) (.cons (.list .nil) (.cons (.list .nil) (.cons (.bool false) .nil)))))) l H= .ok (.ref k) H'->Gr H H'->d0 H' k xs->C):C:=by
 have g3:Gr H1 (((H1++ [SO.list []])++ [SO.list []])++ [SO.list []]):=Gr.trans (Gr.trans ⟨_,rfl⟩ ⟨_,rfl⟩) ⟨_,rfl⟩
 refine mq (yG (H:=((H1++ [SO.list []])++ [SO.list []])++ [SO.list []]) (g3.at hr) (Gr.at ⟨_,rfl⟩ (Gr.at ⟨_,rfl⟩ (dU ..))) (Gr.at ⟨_,rfl⟩ (dU ..)) (dU ..) hp hl d) λH2 e2 g4 c2=> ?_
 exact K H2 _ (lF (aa h (aa (bG af) (aa (bG af) (aa (bG af) (aa rfl af))))) rfl e2) ((g.trans g3).trans g4) c2
section
variable {H:HP}{w:Wd}{m:Mc}{ak:List bg}{es:List bo}{a7:Nat}{bl:List (Nat×List Op)}{tc:Nat}
theorem DT (v:ig H w m ak es a7 bl tc)(a:Dr)(f:Nat->Option SV)(cuts:Int)(d:Nat){C:Prop}
  (K:∀f' H',aK P (run P (d+7)) Qn (vN w m a7 cuts f a (es.length+1)) H= .next (gO w m ((es.length+1:Nat):Int) cuts f') H'->ig H' w m ak es (es.length+1) bl tc->C):C:=by
 have q:=v.ms
 have cI:=q.cI
 have em:(bl.map λp:Nat×List Op=>SV.ref p.1).length=es.length+1:=(bI _).trans q.len
 have e1:=Fq cI.st cI.bb (d+6)
 rw [em] at e1
 have K6:m.si≠m.mi:=cW cI.st q.hm (fH rfl)
 have Ve:m.bi≠m.si:=cW cI.bb cI.st (fH rfl)
 have YK:m.bi≠m.mi:=cW cI.bb q.hm (fH rfl)
 refine aZ cI.dd λso d1 d2=> ?_
 have NB:m.di≠m.si:=cW d1 cI.st (en d2)
 have YO:m.di≠m.mi:=cW d1 q.hm (en d2)
 have m1:=bQ (o:=bF m.di m.bi ((es.length+1:Nat):Int) (fM bl)) (Ne.symm K6) q.hm
 have s1:=eA (o:=bF m.di m.bi ((es.length+1:Nat):Int) (fM bl)) cI.st
 have e2:=pk m1 s1 (bQ Ve cI.bb) (by rw [em]) (d+5)
 have kp:Kp H ((H.set m.si (bF m.di m.bi ((es.length+1:Nat):Int) (fM bl))).set m.mi (aX m.si (eh ak a0 es).idx (eh ak a0 es).term (eh ak a0 es).aP (eh ak a0 es).idx w.sync)):=xP q.hm cI q.ne λj o hj e=>by
  simp only [List.mem_cons,List.not_mem_nil,or_false,not_or] at hj
  exact bQ hj.1 (bQ hj.2.1 e)
 exact K _ _ (nc (gO w m ((es.length+1:Nat):Int) cuts) (ae (bX (aw (q:= .fn 88) (v:= .ref m.si) rfl (bN cI.st) af e1)) (ae (bX (aw (q:= .fn 71) (v:= .ref m.mi) rfl (bN m1) af e2)) (ae (bJ rfl) aj))) rfl)
  (v.Me kp ⟨(eA m1).trans (congrArg (λz=>some (aX m.si (eh ak a0 es).idx (eh ak a0 es).term (eh ak a0 es).aP z w.sync)) lm),⟨bQ K6 s1,⟨so,bQ YO (bQ NB d1),d2⟩,bQ YK (bQ Ve cI.bb),λp hp=>⟨kp _ _ (cI.at_ p hp).1 (u4 _),(cI.at_ p hp).2⟩⟩,q.Pj⟩ (Nat.le_add_left 1 _) (bS _) λu8=>rfl)
theorem tB (v:ig H w m ak es a7 bl tc){n:Int}(hn:n≠((es.length+1:Nat):Int)+1)(n0:0<=n)(n1:n<1000)(h5:l[5]? =some (some (.ref m.mi)))(UA:l[18]? =some (some (.int n)))(Tu:(al l 23 (.bool false))[18]? =some (some (.int n)))(Ys:(al l 23 (.bool false))[5]? =some (some (.ref m.mi)))(VZ:(al (al l 23 (.bool false)) 23 (.bool true))[23]? =some (some (.bool true)))(d:Nat){C:Prop}
  (K:∀H',aK P (run P (d+7)) (tD (cK Qw)) l H= .next (al (al l 23 (.bool false)) 23 (.bool true)) H'->Gr H H'->C):C:=by
 refine pw (H:=H++ [kZ 9 n 0 []]) (l:=al l 23 (.bool false)) (xs:= [7]) (e:= .list (.cons (.int 7) .nil)) (d+5) (bG (aa rfl af)) ⟨_,rfl⟩ (dU ..) (List.pairwise_singleton _ _) (by decide) λH2 k e2 g2 c2=> ?_
 have g:=Gr.trans ⟨_,rfl⟩ g2
 have hi:=lm (ak:=ak) (es:=es)
 have e3:=Jh (cf:= .ref k) (g.at v.ms.hm) (g2.at (dU ..)) (hi▸hn) n0 n1 (hi▸fD _) (hi▸(by have:=v.len;lia)) (d+6)
 exact K H2 (ae (bJ rfl) (ae (vB (u0 (yX (aw (q:= .fn 74) (v:= .ref m.mi) (R:=run P (d+7)) (bc Ys) (bN v.ms.hm) (aa (lF (aa rfl (aa (bc Tu) (aa rfl (aa rfl af)))) rfl (vd 9 n 0 [] (d+6) H)) (aa e2 af)) e3))) rfl) (ae (cD (mt (q:=true) (gy VZ)) aj) aj))) g
end
theorem Ij {a b:Nat}(h:SV.ref a=SV.ref b):a=b:=by cases h;rfl
section
variable {H:HP}{w:Wd}{m:Mc}{ak:List bg}{es:List bo}{a7:Nat}{bl:List (Nat×List Op)}{tc:Nat}{e:bo}
theorem ig.ke (v:ig H w m ak es a7 bl tc)(g:Ke H H'):ig H' w m ak es a7 bl tc:=
 {v with hn:=g _ _ v.hn,hL:=g _ _ v.hL,hA:=g _ _ v.hA,ms:=v.ms.tr g.kl.Rk,hE:=v.hE.kl g.kl}
theorem Id (v:ig H w m ak es a7 bl tc)(a:Dr)(f:Nat->Option SV)(cuts:Int)(d:Nat){C:Prop}
  (K:∀f' H',aK P (run P (d+7)) Qw (vN w m a7 cuts f a (es.length+1)) H= .next (gO w m a7 cuts f') H'->ig H' w m ak es a7 bl tc->C):C:=by
 have em:=v.len
 have f1:(H++ [SO.list [.int ((es.length+1:Nat):Int), .int (((es.length+1:Nat):Int)+2)]])[H.length]? =some (.list [.int ((es.length+1:Nat):Int), .int (((es.length+1:Nat):Int)+2)]):=dU ..
 have v1:=v.ke (Gr.ke ⟨[SO.list [.int ((es.length+1:Nat):Int), .int (((es.length+1:Nat):Int)+2)]],rfl⟩)
 refine tB v1 (n:=((es.length+1:Nat):Int)) (by lia) (by exact fD _) (by lia) (l:=al (vN w m a7 cuts f a (es.length+1)) 18 (.int ((es.length+1:Nat):Int))) rfl rfl rfl rfl rfl d λH2 e2 g2=> ?_
 refine tB (v1.ke g2.ke) (n:=((es.length+1:Nat):Int)+2) (by lia) (by lia) (by lia) (l:=al (al (al (al (vN w m a7 cuts f a (es.length+1)) 18 (.int ((es.length+1:Nat):Int))) 23 (.bool false)) 23 (.bool true)) 18 (.int (((es.length+1:Nat):Int)+2))) rfl rfl rfl rfl rfl d λH3 e3 g3=> ?_
 have hN:=dY f1
 exact K _ H3 (nc (gO w m a7 cuts) (ae (f_ (v:= .ref H.length) (bG (aa rfl (aa (aJ rfl rfl rfl) af))) (by
  rw [hN]
  exact fA (eB f1 0) rfl e2 (fA (eB (g2.at f1) 1) rfl e3 (jr (eB (g3.at (g2.at f1)) 2))))) aj) rfl) ((v1.ke g2.ke).ke g3.ke)
theorem HZ (v:ig H w m ak es a7 bl tc)(lG:ak≠ [])(R:au){C:Prop}
  (K:∀H2,dl R .ng (.ref w.lg) [e.sv] H= .ok .none H2->H2[w.lg]? =some (.list ((e0::(es++ [e])).map bo.sv))->H2[w.fQ]? =some (.list (ak.map bg.sv))->Kl H H2->C):C:=by
 have e2:=jO (R:=R) (v:=e.sv) v.hL (fJ (Nat.le_of_eq (bI _)) (show es.length+1<4096 by have:=v.len;lia))
 have Wm:(e0::es).map bo.sv++ [e.sv]=(e0::(es++ [e])).map bo.sv:=(eG (f:=bo.sv) (l₁:=e0::es) (l₂:= [e])).symm
 rw [Wm] at e2
 refine K _ e2 (eA v.hL) (bQ (λq=> ?_) v.hA) (Fb v.hL (bS 5))
 have h1:=v.hA
 rw [q,v.hL] at h1
 cases ak with
 |nil=>exact lG rfl
 |cons a r=>
  have:=congrArg (λo=>match o with|some (SO.list (SV.tuple t::_))=>t.length|_=>0) h1
  exact absurd (show (5:Nat)=6 from this) (by decide)
theorem ig.ent {cC KD:Nat}(v:ig H w m ak es a7 bl tc)(hn:H'[w.nm]? =some (.list (iL w.ns)))(hL:H'[w.lg]? =some (.list ((e0::(es++ [e])).map bo.sv)))(hA:H'[w.fQ]? =some (.list (ak.map bg.sv)))(ms:MS H' m w.sync ak (es++ [e]) cC cC vt)(hE:gb H' ak 1 1 (es++ [e]))
  (ho:q7 ak (cE ak mT (e0::es)) e.one) (lG:ak≠ []) (t0:0<=e.term) (t1:e.term<=2+es.length) (m1:1<=e.mem) (m3:e.mem<=3) (em:es.length<20) (Ti:(dz ak (cE ak mT (e0::es)) e.one).told.length=KD) (CA:KD<=es.length+1) (s1:1<=cC) (s2:cC<=es.length+2) (s3:w.sync=true->cC=es.length+2):
  ig H' w m ak (es++ [e]) cC vt KD:=by
 have wF:(es++ [e]).length=es.length+1:=aL
 have nV:cE ak mT (e0::(es++ [e]))=dz ak (cE ak mT (e0::es)) e.one:=nY (es:=e0::es)
 exact {hn:=hn,n0:=v.n0,n1:=v.n1,hL:=hL,hA:=hA,ms:=ms,hE:=hE,ok:=v.ok,up:=v.up,wf:=pZ (es:=e0::es) v.wf ho,told:=nV▸Ti,num:=v.num,len:=wF▸em,HK:=wF▸CA,s1:=s1,s2:=wF▸s2,s3:=wF▸s3,t0:=om (es:=es)▸t0,t1:=by rw [om,wF];lia,m1:=nW (es:=es)▸m1,m3:=nW (es:=es)▸m3,ne:=λz=>absurd z lG}
theorem ig.fB (v:ig H w m ak es a7 bl tc)(ho:q7 ak (cE ak mT (e0::es)) e.one):(cE ak mT (e0::(es++ [e]))).fB.map ob=(cE ak mT (e0::es)).fB.map ob++ [ob (mA (eh ak a0 es) (kF ak e.one))]:=by
 rw [show cE ak mT (e0::(es++ [e]))=_ from nY (es:=e0::es),(yr v.MB.1 v.up v.ok ho).2.1]
 exact eG
theorem pM (v:ig H w m ak es a7 bl tc)(he:e.er= .ref H.length){kind:Int}(hw:f9 kind data (kF ak e.one))(Yn:oq H e.cr cm)(YZ:cm=none/\e.mem=fL 1 es∨cm=some (fP e.mem))(ho:q7 ak (cE ak mT (e0::es)) e.one)(lG:ak≠ [])
  (t0:0<=e.term) (t1:e.term<=2+es.length) (m1:1<=e.mem) (m3:e.mem<=3) (em:es.length<20) {KD:Nat} (Ti:(dz ak (cE ak mT (e0::es)) e.one).told.length=KD) (CA:KD<=es.length+1) (a:Dr) (f:Nat->Option SV) (cuts:Int) (d:Nat) {C:Prop}
  (K:∀f' H' cC vt,aK P (run P (d+7)) (bx 6 wn) (gM w m a7 cuts f a (es.length+1) ⟨e.term,e.cr,e.mem,Dj e.one,kind,some (.bytes data)⟩) H= .next (gO w m (cC:Nat) cuts f') H'->ig H' w m ak (es++ [e]) cC vt KD->C):C:=by
 have e1:=vd e.term (((es.length+1:Nat):Int)+1) kind data (d+6) H
 have g1:Gr H (H++ [kZ e.term (((es.length+1:Nat):Int)+1) kind data]):=⟨_,rfl⟩
 have f1:(H++ [kZ e.term (((es.length+1:Nat):Int)+1) kind data])[H.length]? =some (kZ e.term ((es.length:Int)+2) kind data):=(dU ..).trans (congrArg (λz=>some (kZ e.term z kind data)) (by lia))
 generalize H++ [kZ e.term (((es.length+1:Nat):Int)+1) kind data]=H1 at*
 have v1:=v.ke g1.ke
 have Hj:jQ H1 ak ((es.length:Int)+2) (fL 1 es) e:=⟨⟨H.length,kind,data,cm,he,f1,hw,Yn.kl g1.ke.kl,YZ⟩,t0,by lia,by exact lA ‹_› rfl⟩
 refine HZ (e:=e) v1 lG (run P (d+7)) λH2 e2 uz UZ kl=>Bc (v1.ms.tr kl.Rk) (Hj.kl kl) (ji (m:=1) rfl) v.Ow (dR em (by decide)) d λH3 er r h3 e3 Y8 kp=> ?_
 obtain rfl:H.length=er:=Ij (he.symm.trans h3)
 refine px v.ok (kp _ _ UZ sX) (kp _ _ uz mY) (pZ (es:=e0::es) v.wf ho) (show (es++ [e]).length+1<40 by rw [aL];exact dR (Nat.succ_lt_succ (Nat.succ_lt_succ em)) (by decide)) (d+5) λso H4 e4 g4 rd u8=> ?_
 have r4:=rd.fB
 rw [v.fB ho] at r4
 have hN:=g4.at (kp _ _ (kl _ _ l6 v1.hn) (kh _))
 have hE:=gb.kl g4.ke.kl (uJ ((v1.hE.kl kl).kp kp) (by rw [show (((1+es.length:Nat):Int)+1)=(es.length:Int)+2 by lia];exact (Hj.kl kl).kp kp))
 have m4:=Y8.tr g4.ke.kl.Rk
 have go:∀{o:cQ},aK P (run P (d+7)) (bx 9 wn) (al (gM w m a7 cuts f a (es.length+1) ⟨e.term,e.cr,e.mem,Dj e.one,kind,some (.bytes data)⟩) 35 (.ref H.length)) H4=o->aK P (run P (d+7)) (bx 6 wn) (gM w m a7 cuts f a (es.length+1) ⟨e.term,e.cr,e.mem,Dj e.one,kind,some (.bytes data)⟩) H=o:=λ{o} h=>
  ae (bJ (lF (aa rfl (aa (aJ rfl rfl rfl) (aa rfl (aa rfl af)))) rfl e1)) (ae (bX (aw (vs:= [e.sv]) rfl (bN v1.hL) (aa (v:=e.sv) (by unfold bo.sv;rw [he];exact db (aa rfl (aa rfl (aa rfl (aa rfl (aa rfl af)))))) af) e2))
   (ae (cD (an (aw (q:= .fn 74) (v:= .ref m.mi) (R:=run P (d+7)) rfl (bN (kl _ _ jE v1.ms.hm)) (aa rfl (aa rfl af)) e3) (aN (aN (cz (aa rfl (aa rfl af)) e4) rfl rfl) rfl (el r4)) (wK _ _)) aj) h))
 have eR:∀(f' :Nat->Option SV) (cC:Nat),(bif w.sync then (es.length:Int)+2 else (a7:Int))=cC->1<=cC->cC<=es.length+2->(w.sync=true->cC=es.length+2)->aK P (run P (d+7)) (bx 6 wn) (gM w m a7 cuts f a (es.length+1) ⟨e.term,e.cr,e.mem,Dj e.one,kind,some (.bytes data)⟩) H= .next (gO w m (cC:Nat) cuts f') H4->C:=λf' cC q1 q2 q3 q4 q5=>
  K f' H4 cC _ q5 (v.ent hN (g4.at (kp _ _ uz mY)) (g4.at (kp _ _ UZ sX)) (q1▸m4) hE ho lG t0 t1 m1 m3 em Ti CA q2 q3 q4)
 rcases Bool.eq_false_or_eq_true w.sync with hs|hs
 ·exact eR _ (es.length+2) (by rw [hs];rfl) (Nat.succ_pos _) (bS _) (λu8=>rfl) (nc (gO w m ((es.length+2:Nat):Int) cuts) (go (ae (eZ (qy (aF rfl m4.hm (hs▸rfl))) (ae (bJ (v:= .int ((es.length+2:Nat):Int)) (aJ (x:= .int ((es.length+1:Nat):Int)) (y:= .int 1) rfl rfl rfl)) aj)) aj)) rfl)
 ·exact eR _ a7 (by rw [hs];rfl) v.s1 (Nat.le_succ_of_le v.s2) (λz=>nomatch hs.symm.trans z) (nc (gO w m a7 cuts) (go (ae (cD (qy (aF rfl m4.hm (hs▸rfl))) aj) aj)) rfl)
end
noncomputable def Ky:cA:=nN (cK (bx 5 wn))
noncomputable def Ib:cA:=kJ (cK (bx 5 wn))
theorem yt {c:iX}(ok:c.Ok)(h6:c.kind<=6)(d:Nat)(h:dK P (run P (d+4)) es l H= .ok [.int c.kind, .int c.d7, .int c.number, .bytes c.key, .bytes c.value,ob c.expect] H1){C:Prop}
  (K:∀H',bj P (run P (d+4)) (.ez (.callC 14 es) 21 .nil) l H= .ok (.bytes c.enc) H'->Gr H1 H'->C):C:=by
 have f:(H1++ [c.so])[H1.length]? =some c.so:=dU ..
 refine aZ (J8 ok h6 f d) λH2 e2 g2=> ?_
 exact K H2 (aw (q:= .fn 59) (v:= .ref H1.length) (lF h rfl (BJ c (d+3) H1)) (bN f) af e2) (Gr.trans ⟨_,rfl⟩ g2)
noncomputable def B8:iX:=⟨1,5,999, [107], [33],none⟩
noncomputable def M6:iX:=⟨7,5,999, [107], [33],none⟩
theorem Bd:B8.Ok:=⟨by decide,by decide,by decide,by decide,by decide,by decide,by decide,by decide,λu8 h=>nomatch h⟩
theorem Iz:M6.Ok:=⟨by decide,by decide,by decide,by decide,by decide,by decide,by decide,by decide,λu8 h=>nomatch h⟩
theorem zh {lo hi:Int}{m:Nat}(e:fq lo hi=fP m):Mine.bH Bi.list [.range lo hi] H= .ok (.ref H.length) (H++ [SO.list (iL (fP m))]):=congrArg (λl=>du.ok (SV.ref H.length) (H++ [SO.list (iL l)])) e
theorem zj {R:au}{y k:Int}(h:l[12]? =some (some (.int y)))(h2:decide (y%4=k)=q):gK P R (.cmp .eq (.bin .mod (.loc 12) (.int 4)) (.int k)) l H= .ok q H:=ic (aJ (bc h) rfl (fG (by decide) (by decide))) h2
theorem vU {R:au}{y a b:Int}(h:l[12]? =some (some (.int y)))(a0:0<a)(a1:a<1000000000)(b0:0<b)(b1:b<1000000000):bj P R (.bin .mod (.bin .fdiv (.loc 12) (.int a)) (.int b)) l H= .ok (.int ((y/a)%b)) H:=aJ (aJ (bc h) rfl (mM a0 a1)) rfl (fG b0 b1)
theorem Px (y:Int){C:Prop}(K:∀k:Nat,1+y%3=(k:Int)->1<=k->k<=3->C):C:=by
 have h0:=Int.emod_nonneg y (show (3:Int)≠0 by decide)
 have h1:=Int.emod_lt_of_pos y (show (0:Int)<3 by decide)
 generalize y%3=z at*
 exact K (1+z).toNat (by lia) (by lia) (by lia)
section
variable {H:HP}{w:Wd}{m:Mc}{ak:List bg}{s c:Int}{n:Nat}
theorem Gq (a:Dr)(h3:a.y%4≠3){mem:Nat}(m1:1<=mem)(m3:mem<=3)(f:Nat->Option SV)(t:Int)(b:Option SV)(d:Nat){C:Prop}
  (K:∀f' H' cf cm nX kind data,aK P (run P (d+7)) Ky (gM w m s c f a n ⟨t, .none,mem, -1,0,b⟩) H= .next (gM w m s c f' a n ⟨t,cf,nX, -1,kind,some (.bytes data)⟩) H'->Gr H H'->
   f9 kind data .no->oq H' cf cm->cm=none/\nX=mem∨cm=some (fP nX)->1<=nX->nX<=3->C):C:=by
 have e5:∀(l:cR) (H:HP),(∀H',bj P (run P (d+7)) (.ez (.callC 14 (.cons (.int 1) (.cons (.int 5) (.cons (.int 999) (.cons (.bytes [107]) (.cons (.bytes [33]) (.cons .none .nil))))))) 21 .nil) l H= .ok (.bytes B8.enc) H'->Gr H H'->C)->C:=λl H k=>yt Bd (by decide) (d+3) rfl k
 have eR:∀{H' :HP} {kind:Int} {data:By} (l:cR),aK P (run P (d+7)) Ky (gM w m s c f a n ⟨t, .none,mem, -1,0,b⟩) H= .next l H'->l=gM w m s c (fr l) a n ⟨t, .none,mem, -1,kind,some (.bytes data)⟩->Gr H H'->f9 kind data .no->C:=λl h hl g hw=>
  K _ _ .none none mem _ _ (nc (λf' =>gM w m s c f' a n ⟨t, .none,mem, -1,_,some (.bytes _)⟩) h hl) g hw .no (.inl ⟨rfl,rfl⟩) m1 m3
 by_cases q0:a.y%4=0
 ·refine Px (a.y/4) λnX hm b1 b3=>pw (H:=H) (xs:=fP nX) (l:=al (al (al (gM w m s c f a n ⟨t, .none,mem, -1,0,b⟩) 26 (.bytes [])) 25 (.int 2)) 21 (.int nX)) (e:= .bH .list (.cons (.bH .range (.cons (.int 1) (.cons (.bin .add (.loc 21) (.int 1)) .nil))) .nil)) (d+5)
   (bu (aa (bu (aa rfl (aa (aJ rfl rfl rfl) af)) (jM (by decide) (by lia) (by lia))) af) (zh (tv nX))) ⟨_,rfl⟩ (dU ..) (AK _) (by rw [tN];exact lC ‹_› rfl) λH1 k e1 g1 c1=>e5 (al (al (al (al (gM w m s c f a n ⟨t, .none,mem, -1,0,b⟩) 26 (.bytes [])) 25 (.int 2)) 21 (.int nX)) 20 (.ref k)) H1 λH2 e2 g2=> ?_
  exact K _ H2 (.ref k) (some (fP nX)) nX 2 B8.enc (nc (λf' =>gM w m s c f' a n ⟨t, .ref k,nX, -1,2,some (.bytes B8.enc)⟩) (ae (bJ rfl) (ae (eZ (zj rfl (bf q0)) (ae (bJ rfl) (ae (bJ (aJ (x:= .int 1) rfl (vU (y:=a.y) rfl (by decide) (by decide) (by decide) (by decide)) (congrArg (λz=>du.ok (SV.int z) H) hm))) (ae (bJ e1) (ae (bJ e2) aj))))) aj)) rfl)
   (g1.trans g2) (.idle (.inl rfl)) (.yes k _ (c1.gr g2) (AQ (cy b3 (by decide))) (by rw [tN];exact lC ‹_› rfl)) (.inr rfl) b1 b3
 by_cases q1:a.y%4=1
 ·exact e5 (al (gM w m s c f a n ⟨t, .none,mem, -1,0,b⟩) 26 (.bytes [])) H λH2 e2 g2=>eR _ (ae (bJ rfl) (ae (cD (zj rfl (aQ q0)) (ae (eZ (zj rfl (bf q1)) (ae (bJ (v:= .bytes (B8.enc++ [0])) (aJ e2 rfl (hM (by decide) rfl))) aj)) aj)) aj)) rfl g2 (.more (by decide) B8 Bd 0 rfl)
 by_cases q2:(a.y/4)%2=1
 ·exact e5 (al (gM w m s c f a n ⟨t, .none,mem, -1,0,b⟩) 26 (.bytes [])) H λH2 e2 g2=>eR _ (ae (bJ rfl) (ae (cD (zj rfl (aQ q0)) (ae (cD (zj rfl (aQ q1)) (ae (eZ (ic (vU rfl (by decide) (by decide) (by decide) (by decide)) (bf q2)) (ae (bJ (v:= .bytes M6.enc) (aJ rfl (Hs e2 rfl rfl (KM (x:=1) (b:= [5,231,7,1,107,1,33,0]))) (hM (by decide) rfl))) aj)) aj)) aj)) aj)) rfl g2 (.Bb (by decide) M6 Iz (by decide) rfl)
 ·exact eR _ (ae (bJ rfl) (ae (cD (zj rfl (aQ q0)) (ae (cD (zj rfl (aQ q1)) (ae (cD (ic (vU rfl (by decide) (by decide) (by decide) (by decide)) (aQ q2)) aj) aj)) aj)) aj)) rfl Gr.refl (.idle (.inr rfl))
theorem xD {k:Nat}(mf:lX ak)(hA:H[w.fQ]? =some (.list (ak.map bg.sv)))(hk:k<ak.length)(a:Dr)(f:Nat->Option SV)(t:Int)(cf:SV)(mem:Nat)(kind:Int)(b:Option SV)(d:Nat){C:Prop}
  (K:∀f' H' u,aK P (run P (d+7)) (bx 1 Ib) (gM w m s c f a n ⟨t,cf,mem,k,kind,b⟩) H= .next (gM w m s c f' ⟨a.x,a.act,a.y,u,a.mr⟩ n ⟨t,cf,mem,k,kind,some (.bytes (ak.getD k dA).c.enc)⟩) H'->Gr H H'->f9 0 (ak.getD k dA).c.enc (kF ak (some k))->C):C:=by
 refine Tx (mf.ok _ (jS hk)) λhc h6 ui hv DH=> ?_
 have e0:=md hA hk
 have NT:f9 0 (ak.getD k dA).c.enc (kF ak (some k)):= .cmd (by decide) _ _ hc h6 rfl DH ui hv
 generalize ak.getD k dA=q at*
 have e1:=qN (d+6) H
 have s1:=DH▸Kv q.dD H
 refine yt (c:=q.c) hc h6 (d:=d+3) (l:=dJ (gM w m s c f a n ⟨t,cf,mem,k,kind,b⟩) [13,27,31,32,34,33] [.int (wi q.dD), .int q.c.number, .int q.c.kind, .bytes q.c.key, .bytes q.c.value,ob q.c.expect]) (aa (e:= .loc 31) rfl (aa (e:= .sub (.fT 93 .nil) (.loc 13)) (aN (cz af e1) rfl s1) (aa (e:= .loc 27) rfl (aa (e:= .loc 32) rfl (aa (e:= .loc 34) rfl (aa (e:= .loc 33) rfl af)))))) λH2 e2 g2=> ?_
 exact K _ H2 q.dD (nc (λf' =>gM w m s c f' ⟨a.x,a.act,a.y,q.dD,a.mr⟩ n ⟨t,cf,mem,k,kind,some (.bytes q.c.enc)⟩) (ae (lz (vs:= [.int (wi q.dD), .int q.c.number, .int q.c.kind, .bytes q.c.key, .bytes q.c.value,ob q.c.expect]) (aN rfl rfl e0) rfl) (ae (bJ e2) aj)) rfl) (Gr.trans ⟨_,rfl⟩ g2) NT
end
noncomputable def Qb:cA:=kJ (cK Ib)
noncomputable def gq (ak:List bg)(w:Bool):List Nat:=(List.range ak.length).filter λk=>decide ((ak.getD k dA).dD=w)
theorem xp {ak:List bg}{k:Nat}(h:k∈gq ak w):k<ak.length/\(ak.getD k dA).dD=w:=
 have h:=List.mem_filter.mp h
 ⟨List.mem_range.mp h.1,of_decide_eq_true h.2⟩
theorem wY {k:Nat}(h:k<ak.length)(h2:(ak.getD k dA).dD=w):k∈gq ak w:=List.mem_filter.mpr ⟨List.mem_range.mpr h,bf h2⟩
theorem Jw {ak:List bg}:(gq ak w).Pairwise (·< ·):=List.Pairwise.filter _ List.pairwise_lt_range
theorem IX {ak:List bg}:(gq ak w).length<=ak.length:=cy (List.length_filter_le _ _) (Nat.le_of_eq List.length_range)
theorem pb (y:Int){n:Nat}(h:0<n){C:Prop}(K:∀j:Nat,y%(n:Int)=j->j<n->C):C:=by
 have h0:=Int.emod_nonneg y (show (n:Int)≠0 by lia)
 have h1:=Int.emod_lt_of_pos y (show (0:Int)<n by lia)
 generalize y%(n:Int)=z at*
 exact K z.toNat (by lia) (by lia)
theorem uY {i:Nat}:al (al l i v) i x=al l i x:=List.set_set ..
section
variable {H:HP}{w:Wd}{m:Mc}{ak:List bg}{s c:Int}{n:Nat}
theorem zy (a:Dr)(wW:H[a.mr]? =some (.list (dn (gq ak a.w))))(lG:gq ak a.w≠ [])(ha:a.act<5)(hl:ak.length<1000)(f:Nat->Option SV)(t:Int)(cf:SV)(mem:Nat)(kind:Int)(b:Option SV)(R:au){C:Prop}
  (K:∀k:Nat,k∈gq ak a.w->gJ P R (cK Ib) (gM w m s c f a n ⟨t,cf,mem, -1,kind,b⟩) H= .next (gM w m s c f a n ⟨t,cf,mem,k,kind,b⟩) H->C):C:=by
 refine pb (a.y/2) (List.length_pos_iff.mpr lG) λj hj UK=> ?_
 have hv:(dn (gq ak a.w))[j]? =some (.int ((gq ak a.w)[j]:Nat)):=by
  unfold dn
  rw [iW,eV UK];rfl
 have zd:=ca wW
 rw [jB] at zd
 have hb:cF .mod (.int (a.y/2)) (.int ((gq ak a.w).length:Nat)) H= .ok (.int j) H:=hj▸fG (by lia) (by have:=IX (ak:=ak) (w:=a.w);lia)
 exact K _ (List.getElem_mem UK) (eZ (an rfl rfl (gv (bf ha))) (ae (bJ (aN rfl (aJ (aJ rfl rfl (mM (by decide) (by decide))) (bu (aa rfl af) zd) hb) (gG wW hv))) aj))
theorem Il (XW:yZ ak)(mf:lX ak)(SI:∀a∈ak,a.c.number<=126+2*(ak.length:Int))(hA:H[w.fQ]? =some (.list (ak.map bg.sv)))(a:Dr)(wW:H[a.mr]? =some (.list (dn (gq ak a.w))))(f:Nat->Option SV)(b:En)(R:au){C:Prop}
  (K:∀num:Int,gJ P R (cK (bx 2 Qb)) (al (gM w m s c f a n b) 27 (.int 126)) H= .next (al (gM w m s c f a n b) 27 (.int num)) H->(∀i,i<ak.length->(ak.getD i dA).dD=a.w->(ak.getD i dA).c.number<num)->0<=num->num<=126+2*((ak.length:Int)+1)->C):C:=by
 have zd:=ca wW
 rw [jB] at zd
 rcases List.eq_nil_or_concat (gq ak a.w) with z|⟨pre,k,z⟩
 ·rw [z] at zd
  exact K 126 (cD (an (bu (aa rfl af) zd) rfl (jG rfl)) aj) (λi hi hw=>nomatch z▸wY hi hw) (by decide) (by lia)
 rw [List.concat_eq_append] at z
 obtain ⟨Gw,Io⟩:=xp (ak:=ak) (w:=a.w) (k:=k) (by rw [z];simp)
 have Qh:=Jw (ak:=ak) (w:=a.w)
 rw [z] at zd wW Qh
 rw [<-mX] at wW
 have ZB:=SI _ (jS Gw)
 have HH:=(mf.ok _ (jS Gw)).1.n0
 have lO:∀i,i<ak.length->(ak.getD i dA).dD=a.w->(ak.getD i dA).c.number<=(ak.getD k dA).c.number:=λi hi hw=>by
  have:=wY hi hw
  rw [z] at this
  rcases gf this with q|q
  ·exact Int.le_of_lt (XW.up i k ((List.pairwise_append.mp Qh).2.2 i q k (.head _)) Gw (hw.trans Io.symm))
  ·rw [eF q];exact Int.le_refl _
 have e1:=md hA Gw
 have hp:(0:Int)<((pre++ [k]).length:Nat):=by rw [aL];exact Int.natCast_pos.mpr (Nat.succ_pos _)
 generalize ak.getD k dA=q at*
 exact pb (a.y/2) (show 0<2 by decide) λj hj Rb=>K (q.c.number+1+j) (eZ (an (bu (aa rfl af) zd) rfl (jG (bf hp))) (ae (bJ (aJ (aJ (aN (aN rfl (aN rfl rfl (el wW)) e1) rfl (o:= .ok (.int q.c.number) _) rfl) rfl rfl) (vU rfl (by decide) (by decide) (by decide) (by decide)) (congrArg (λz=>du.ok (SV.int (q.c.number+1+z)) H) hj))) aj)) (λi hi hw=>by have:=lO i hi hw;lia) (by lia) (by lia)
theorem FH {st:RS}{q:Nat}(rd:JM H q st so)(hA:H[w.fQ]? =some (.list (ak.map bg.sv)))(hd:∀x∈st.done u,x<ak.length){R:au}(h7:l[7]? =some (some (.ref w.fQ)))(V7:l[29]? =some (some (.ref (q+5))))(I6:l[13]? =some (some (.int (wi u)))):
  ∃z,bj P R (.or (.cons (.cmp .eq (.bH .len (.cons (.sub (.loc 29) (.loc 13)) .nil)) (.int 0)) (.cons (.cmp .eq (.sub (.sub (.loc 7) (.sub (.sub (.loc 29) (.loc 13)) (.neg (.int 1)))) (.int 2)) (.int 6)) .nil))) l H= .ok (.bool z) H:=by
 have ad:=rd.done u
 have hl:=ca ad
 rw [jB] at hl
 have es:=aN (R:=R) (bc V7) (bc I6) (j9 u rd.lst)
 rcases List.eq_nil_or_concat (st.done u) with z|⟨ys,y,z⟩
 ·rw [z] at hl
  exact ⟨_,GA (q:=true) (fU (bu (aa es af) hl) rfl rfl) (λq=>nomatch q)⟩
 ·rw [List.concat_eq_append] at z
  have hy:=hd y (by rw [z];simp)
  rw [z,<-mX] at ad
  exact ⟨_,GA (fU (bu (aa es af) hl) rfl (i7 _ _ _)) (λu8=>fU (aN (aN (bc h7) (aN es rfl (el ad)) (md hA hy)) rfl (o:= .ok (.int (ak.getD y dA).c.kind) _) rfl) rfl (i7 _ _ _))⟩
theorem Fa {j:Nat}(h:j<10):∃k,(iL qx)[j]? =some (.int k)/\0<=k/\k<=6:=
 have hl:j<qx.length:=h
 have h2:=List.all_eq_true.mp (show qx.all (λk=>decide (0<=k)&&decide (k<=6))=true from rfl) _ (List.getElem_mem hl)
 ⟨qx[j],(iW ..).trans (congrArg (Option.map SV.int) (eV hl)),of_decide_eq_true (jb h2).1,of_decide_eq_true (jb h2).2⟩
theorem EX {y:Int}(KA:(al (al l 30 (.bool q)) 31 (.int 5))[12]? =some (some (.int y)))(Ud:(al (al l 30 (.bool q)) 31 (.int 5))[30]? =some (some (.bool q)))(d:Nat){C:Prop}
  (K:∀k H',gJ P (run P (d+1)) (cK (bx 6 Qb)) (al (al l 30 (.bool q)) 31 (.int 5)) H= .next (al (al l 30 (.bool q)) 31 (.int k)) H'->Gr H H'->0<=k->k<=6->C):C:=by
 have yes:gK P (run P (d+1)) (.or (.cons (.not (.loc 30)) (.cons (.cmp .eq (.bin .mod (.bin .fdiv (.loc 12) (.int 4)) (.int 4)) (.int 3)) .nil))) (al (al l 30 (.bool q)) 31 (.int 5)) H= .ok true H->C:=λhc=>by
  refine pb (y/4) (show 0<10 by decide) λj hj Rb=> ?_
  refine mq (Fa Rb) λk hk k0 k6=> ?_
  exact K k (H++ [.list (iL qx)]) ((eZ hc (ae (bJ (aN (cz af (CM d H)) (vU KA (by decide) (by decide) (by decide) (by decide)) (hj▸oV (o:= .aM) hk))) aj)).trans (congrArg (cQ.next · _) uY)) ⟨_,rfl⟩ k0 k6
 cases q with
 |false=>exact yes (fC (jX (mt (gy Ud))))
 |true=>
  by_cases q3:(y/4)%4=3
  ·exact yes (fC (da (mt (gy Ud)) (jX (ic (vU KA (by decide) (by decide) (by decide) (by decide)) (bf q3)))))
  ·exact K 5 H (cD (fC (da (mt (gy Ud)) (da (ic (vU KA (by decide) (by decide) (by decide) (by decide)) (aQ q3)) fc))) aj) Gr.refl (by decide) (by decide)
end
theorem JU {j:Nat}(h:j<2){C:Prop}(K:∀k:By,([.bytes [], .bytes [107]]:List SV)[j]? =some (.bytes k)->(k= []∨k= [107])->C):C:=
 K _ ((iW (f:=SV.bytes) (l:= [[], [107]])).trans (congrArg (Option.map SV.bytes) (eV h))) ((cH (List.getElem_mem (l:= [[], [107]]) h)).imp id eF)
theorem LG {j:Nat}(h:j<3)(o:Option By)(ho:∀b,o=some b->b.length<128){C:Prop}(K:∀e:Option By,([ob o, .none, .bytes [120]]:List SV)[j]? =some (ob e)->(∀b,e=some b->b.length<128)->C):C:=
 K _ ((iW (f:=ob) (l:= [o,none,some [120]])).trans (congrArg (Option.map ob) (eV h))) λb z=>by
  have hm:=List.getElem_mem (l:= [o,none,some [120]]) h
  rw [z] at hm
  rcases cH hm with hm|hm
  ·exact ho b hm.symm
  rcases cH hm with hm|hm
  ·exact E6 hm
  ·cases eF hm
   exact (by decide:1<128)
noncomputable def PP:SO->Nat
 | .list (.tuple t::_)=>t.length
 |_=>0
theorem IM {ak:List bg}(h:SO.list (ak.map bg.sv)=o)(a:qL o)(b:o≠ .list []):False:=by
 subst h
 cases ak with
 |nil=>exact b rfl
 |cons y r=>exact (show ¬6<5 by decide) (a _ _ rfl)
theorem Jo {H:HP}{k:Nat}{ak:List bg}(h:H[k]? =some (.list (ak.map bg.sv))):TM H (H.set k q):=λu8 u8 a b e=>bQ (λq=>IM (cq ((q▸h).symm.trans e)) a b) e
theorem Iq {ak:List bg}:SO.list ((e0::es).map bo.sv)≠ .list (ak.map bg.sv):=λq=>by
 cases ak with
 |nil=>cases q
 |cons y r=>exact absurd (show (5:Nat)=6 from congrArg PP q) (by decide)
theorem MM {ak:List bg}{ns:List Int}(h:ns.length≠0):SO.list (iL ns)≠ .list (ak.map bg.sv):=λq=>by
 cases ns with
 |nil=>exact h rfl
 |cons n r=>cases ak<;>cases q
theorem DY {k:Nat}(h:H[k]? =some (.list (ak.map bg.sv)))(hE:gb H ak 1 1 es)(ne:ak= []->es= [])(ho:∀e∈es,∀k,e.one=some k->k<ak.length):gb (H.set k q) (ak++ [x]) 1 1 es:=by
 cases ak with
 |nil=>exact ne rfl▸trivial
 |cons y r=>exact gb.kl (Fb h (by exact (show 5<=6 by decide))) (hE.ask ho)
section
variable {H:HP}{w:Wd}{m:Mc}{ak:List bg}{es:List bo}{a7:Nat}{bl:List (Nat×List Op)}
theorem ig.ask {x:bg}(v:ig H w m ak es a7 bl ak.length)(hx:x.c.Ok/\x.c.kind<=6/\(x.c.key= []∨x.c.key= [107])/\x.c.value.length=1/\x.c.d7=cl x.dD)(hn:∀i,i<ak.length->(ak.getD i dA).dD=x.dD->(ak.getD i dA).c.number<x.c.number)(hb:x.c.number<=126+2*((ak.length:Int)+1)):
  ig (H.set w.fQ (.list ((ak++ [x]).map bg.sv))) w m (ak++ [x]) es a7 bl ak.length:=by
 have hle:(ak++ [x]).length=ak.length+1:=aL
 have ho:=IO v.wf.2
 have h0:=Hy (x:=x) v.ok (es:=e0::es) (n:=0) Hk v.wf
 exact {hn:=bQ (cW v.hn v.hA (MM v.n0)) v.hn,n0:=v.n0,n1:=v.n1,hL:=bQ (cW v.hL v.hA Iq) v.hL,hA:=eA v.hA,ms:=(v.ms.tr (Jo v.hA)).ask ho,hE:=DY v.hA v.hE v.ne ho,ok:=Hi v.ok hx,up:=EZ v.up hn,wf:=h0.2,told:=h0.1.symm▸v.told,num:=λa ha=>hle▸(gf ha).elim (λha=>Int.le_trans (v.num a ha) (by lia)) (λha=>eF ha▸hb),len:=v.len,HK:=v.HK,s1:=v.s1,s2:=v.s2,s3:=v.s3,t0:=v.t0,t1:=v.t1,m1:=v.m1,m3:=v.m3,ne:=λz=>nomatch hle.symm.trans (congrArg List.length z)}
theorem Ps (w:Bool):0<=cl w/\cl w<16384:=by cases w<;>decide
theorem J1 (v:ig H w m ak es a7 bl ak.length)(a:Dr)(wW:H[a.mr]? =some (.list (dn (gq ak a.w))))(ha:¬a.act<5)(f:Nat->Option SV)(cuts:Int)(t:Int)(cf:SV)(mem:Nat)(kind:Int)(b:Option SV)(d:Nat){C:Prop}
  (K:∀f' H' x,gJ P (run P (d+7)) (cK Ib) (gM w m a7 cuts f a (es.length+1) ⟨t,cf,mem, -1,kind,b⟩) H= .next (gM w m a7 cuts f' a (es.length+1) ⟨t,cf,mem,(ak.length:Nat),kind,b⟩) H'->ig H' w m (ak++ [x]) es a7 bl ak.length->C):C:=by
 have em:=v.len
 have CA:=v.HK
 have hl:=ca v.hA
 rw [bI] at hl
 refine Il (s:=a7) (c:=cuts) (n:=es.length+1) (m:=m) v.up v.ok v.num v.hA a wW f ⟨t,cf,mem,(ak.length:Nat),kind,b⟩ (run P (d+7)) λnum e2 n1 n2 n3=> ?_
 refine px v.ok v.hA v.hL v.wf (show es.length+1<40 by lia) (d+5) λso H1 e3 g3 rd hD=> ?_
 have K3:=v.VI
 have WT:=K3.nw
 have NA:=K3.dk a.w
 have f2:=rd.now
 obtain ⟨q,e4⟩:=FH (R:=run P (d+7)) (l:=dJ (al (gM w m a7 cuts f a (es.length+1) ⟨t,cf,mem,(ak.length:Nat),kind,b⟩) 27 (.int num)) [28,29] [.ref (H.length+2), .ref (H.length+5)]) rd (g3.at v.hA) NA rfl rfl rfl
 have sl:f8 (VH H.length) (.int 2) (.int 4) H1= .ok (.tuple [.ref (H.length+2), .ref (H.length+5)]) H1:=rfl
 generalize H.length=n at*
 generalize cE ak mT (e0::es)=s at*
 refine EX (H:=H1) (y:=a.y) (q:=q) (l:=dJ (al (gM w m a7 cuts f a (es.length+1) ⟨t,cf,mem,(ak.length:Nat),kind,b⟩) 27 (.int num)) [28,29] [.ref (n+2), .ref (n+5)]) rfl rfl (d+6) λkd H2 e6 g6 k0 k6=> ?_
 refine pb (a.y/40) (show 0<2 by decide) λZF SA Ui=>JU Ui λkey ui Lx=> ?_
 have g7:Gr H2 (H2++ [SO.list [.bytes [], .bytes [107]]]):=⟨_,rfl⟩
 have e7:=yE (d+6) H2
 have s7:=oV (H:=H2) (o:= .aM) ui
 generalize H2.length=Zm at*
 generalize H2++ [SO.list [.bytes [], .bytes [107]]]=H3 at*
 have f3:=g7.at (g6.at f2)
 have e8:=E8 (R:=run P (d+7)) (k:=key) f3 hD
 refine pb (a.y/80) (show 0<3 by decide) λZu R8 SJ=>LG SJ (s.now key) (λb hb=>fJ (WT key b hb) (by lia)) λex hex Sd=> ?_
 have s8:=oV (H:=H3) (o:= .aM) hex
 have hq:ak.length<20+1:=Nat.lt_succ_of_le (cy CA em)
 have b9:=cJ (H:=(H3++ [SO.list [ob (s.now key), .none, .bytes [120]]])++ [SO.list [.int (97+(ak.length:Int))]]) (dU ..) (is:= [97+(ak.length:Int)]) rfl (kD (by lia) (by lia))
 have g8:Gr H3 ((H3++ [SO.list [ob (s.now key), .none, .bytes [120]]])++ [SO.list [.int (97+(ak.length:Int))]]):=Gr.trans ⟨_,rfl⟩ ⟨_,rfl⟩
 have v9:=v.ke (((g3.trans g6).trans g7).trans g8).ke
 have Q3:=jO (R:=run P (d+7)) (v:=bg.sv ⟨a.w,⟨kd,cl a.w,num,key, [97+(ak.length:Int)],ex⟩⟩) v9.hA (by rw [bI];exact dR hq (by decide))
 rw [oO (f:=bg.sv)] at Q3
 have DH:=Ps a.w
 have LU:key.length<128:=by rcases Lx with h|h<;>rw [h]<;>decide
 refine K _ _ _ (nc (λf' =>gM w m a7 cuts f' a (es.length+1) ⟨t,cf,mem,(ak.length:Nat),kind,b⟩) (cD (an rfl rfl (gv (aQ ha))) (ae (bJ (bu (aa rfl af) hl)) (ae (bJ rfl) (ae e2 (ae (lz (vs:= [.ref (n+2), .ref (n+5)]) (Hs (cz (aa rfl (aa rfl af)) e3) rfl rfl sl) rfl) (ae (bJ e4) (ae (bJ rfl) (ae e6
  (ae (bJ (aN (cz af e7) (vU rfl (by decide) (by decide) (by decide) (by decide)) (SA▸s7))) (ae (bJ (aN (bG (aa (aw rfl (vY f3 hD) (aa rfl af) e8) (aa rfl (aa rfl af)))) (vU rfl (by decide) (by decide) (by decide) (by decide)) (R8▸s8)))
  (ae (bX (aw rfl (bN (Gr.at ⟨_,rfl⟩ (g7.at (g6.at (g3.at v.hA))))) (aa (db (aa rfl (aa rfl (aa rfl (aa rfl (aa (bu (aa (bG (aa (aJ rfl rfl rfl) af)) af) b9) (aa rfl af))))))) af) Q3)) aj))))))))))) rfl)
  (ig.ask (x:=(⟨a.w,⟨kd,cl a.w,num,key, [97+(ak.length:Int)],ex⟩⟩:bg)) v9 ⟨⟨k0,Int.lt_of_le_of_lt k6 (by decide),DH.1,DH.2,n2,by lia,LU,(by decide:1<128),Sd⟩,k6,Lx,rfl,rfl⟩ n1 n3)
end
theorem r7:∀(es:List bo) (x:bo),∃pre e,x::es=pre++ [e]/\e.term=eI x.term es/\e.mem=fL x.mem es
 | [],x=>⟨[],x,rfl,rfl,rfl⟩
 |y::r,x=>by
  refine j8 (r7 r y) λpre e h1 h2 h3=> ?_
  exact ⟨x::pre,e,by rw [h1];rfl,h2,h3⟩
theorem O6 (a b:Bool)(H:HP):bU .eq (.int (wi a)) (.int (wi b)) H=some (decide (a=b)):=by cases a<;>cases b<;>rfl
theorem Ce {fQ:Nat}{w:Bool}(hA:H[fQ]? =some (.list (ak.map bg.sv)))(hl:ak.length<1000)(h7:l[7]? =some (some (.ref fQ)))(I6:l[13]? =some (some (.int (wi w)))):
  gu 1 (.one (.loc 1000)) (some (.sub (.sub (.loc 7) (.loc 1000)) (.int 0), .loc 13)) (.range 0 (ak.length:Nat)) l H=some (dn (gq ak w)):=by
 refine pd (xs:=List.range ak.length) (enc:=λk=> .int (k:Nat)) (f:=λk=> .int (k:Nat)) (p:=λk=>decide ((ak.getD k dA).dD=w)) (λj=> ?_) ?_ rfl (λk hk=>⟨[.int (k:Nat)],rfl, ?_,λu8=>rfl⟩) (by rw [List.length_range];exact lD ‹_› rfl)
 ·show some (if 0+(j:Int)<(ak.length:Nat) then some (SV.int (0+(j:Int))) else none)=_
  rw [Int.zero_add,iW]
  by_cases q:j<ak.length
  ·rw [if_pos (Int.ofNat_lt.mpr q),List.getElem?_range q];rfl
  ·rw [if_neg (λz=>q (Int.ofNat_lt.mp z)),List.getElem?_eq_none (by rw [List.length_range];exact Nat.le_of_not_lt q)];rfl
 ·rw [List.length_range]
  exact congrArg Int.toNat (Int.sub_zero (ak.length:Int))
 ·have e1:wN (.loc 7) l [.int (k:Nat)] H=some (.ref fQ):=congrArg (λz:Option (Option SV)=>match z with|some (some v)=>some v|_=>none) h7
  have e2:wN (.loc 13) l [.int (k:Nat)] H=some (.int (wi w)):=congrArg (λz:Option (Option SV)=>match z with|some (some v)=>some v|_=>none) I6
  have e3:rn (.ref fQ) (.int (k:Nat)) H=some (ak.getD k dA).sv:=by
   unfold rn
   rw [md hA (List.mem_range.mp hk)]
  show ((((wN (.loc 7) l [.int (k:Nat)] H).bind λx=>(some (SV.int (k:Nat))).bind λy=>rn x y H).bind λx=>(some (SV.int 0)).bind λy=>rn x y H).bind λx=>(wN (.loc 13) l [.int (k:Nat)] H).bind λy=>bU .eq x y H)=_
  rw [e1,e2]
  show (((rn (.ref fQ) (.int (k:Nat)) H).bind λx=>(some (SV.int 0)).bind λy=>rn x y H).bind λx=>(some (SV.int (wi w))).bind λy=>bU .eq x y H)=_
  rw [e3]
  exact O6 _ _ H
section
variable {H:HP}{w:Wd}{m:Mc}{ak:List bg}{es:List bo}{a7:Nat}{bl:List (Nat×List Op)}{tc:Nat}{s:Int}
theorem GM {i mr:Nat}{x cuts:Int}(wW:H[mr]? =some (.list (dn Kj)))(Wg:0<=x%8)(Pa:x%8<8)(h9:l[9]? =some (some (.int cuts)))(DI:l[10]? =some (some (.int (0+(i:Int)))))(C4:l[11]? =some (some (.int (x%8))))(Rs:l[15]? =some (some (.ref mr)))(hs:al l 11 (.int (x%8))=l)(R:au){C:Prop}
  (K:∀act:Int,gJ P R (cK (bx 6 yL)) l H= .next (al l 11 (.int act)) H->0<=act->act<8->(Kj= []->act≠3/\act≠4)->(i=0->act=5)->C):C:=by
 have zd:=ca wW
 rw [jB] at zd
 have Jd:gK P R (.or (.cons (.cmp .eq (.loc 10) (.int 0)) (.cons (.and (.cons (.cmp .eq (.loc 11) (.int 0)) (.cons (.cmp .eq (.loc 9) (.int 1)) .nil))) (.cons (.and (.cons (.cmp .eq (.bH .len (.cons (.loc 15) .nil)) (.int 0)) (.cons (.or (.cons (.cmp .eq (.loc 11) (.int 3)) (.cons (.cmp .eq (.loc 11) (.int 4)) .nil))) .nil))) .nil)))) l H= .ok true H->C:=λh=>
  K 5 (eZ h (ae (bJ rfl) aj)) (by decide) (by decide) (λu8=>⟨by decide,by decide⟩) λu8=>rfl
 by_cases q0:(0+(i:Int))=0
 ·exact Jd (fC (jX (ki DI (bf q0))))
 have n0:=ki (R:=R) (H:=H) DI (aQ q0)
 have i0:i≠0:=λz=>q0 (by rw [z];rfl)
 have same:(Kj= []->x%8≠3/\x%8≠4)->gK P R (.or (.cons (.cmp .eq (.loc 10) (.int 0)) (.cons (.and (.cons (.cmp .eq (.loc 11) (.int 0)) (.cons (.cmp .eq (.loc 9) (.int 1)) .nil))) (.cons (.and (.cons (.cmp .eq (.bH .len (.cons (.loc 15) .nil)) (.int 0)) (.cons (.or (.cons (.cmp .eq (.loc 11) (.int 3)) (.cons (.cmp .eq (.loc 11) (.int 4)) .nil))) .nil))) .nil)))) l H= .ok false H->C:=λz h=>
  K (x%8) ((cD h aj).trans (congrArg (cQ.next · H) hs.symm)) Wg Pa z λz=>absurd z i0
 have two:∃b,gK P R (.and (.cons (.cmp .eq (.loc 11) (.int 0)) (.cons (.cmp .eq (.loc 9) (.int 1)) .nil))) l H= .ok b H:=by
  by_cases q:x%8=0
  ·by_cases z:cuts=1
   ·exact ⟨true,cM (dM (ki C4 (bf q)) (dM (ki h9 (bf z)) fN))⟩
   ·exact ⟨false,cM (dM (ki C4 (bf q)) (iz (ki h9 (aQ z))))⟩
  ·exact ⟨false,cM (iz (ki C4 (aQ q)))⟩
 obtain ⟨b,hb⟩:=two
 cases b with
 |true=>exact Jd (fC (da n0 (jX hb)))
 |false=>
 have hz:bj P R (.bH .len (.cons (.loc 15) .nil)) l H= .ok (.int (Kj.length:Nat)) H:=bu (aa (bc Rs) af) zd
 by_cases qm:Kj= []
 ·by_cases q3:x%8=3
  ·exact Jd (fC (da n0 (da hb (jX (cM (dM (ic hz (by rw [qm];rfl)) (dM (fC (jX (ki C4 (bf q3)))) fN)))))))
  by_cases q4:x%8=4
  ·exact Jd (fC (da n0 (da hb (jX (cM (dM (ic hz (by rw [qm];rfl)) (dM (fC (da (ki C4 (aQ q3)) (jX (ki C4 (bf q4))))) fN)))))))
  ·exact same (λu8=>⟨q3,q4⟩) (fC (da n0 (da hb (da (cM (dM (ic hz (by rw [qm];rfl)) (iz (fC (da (ki C4 (aQ q3)) (da (ki C4 (aQ q4)) fc)))))) fc))))
 ·exact same (λz=>absurd z qm) (fC (da n0 (da hb (da (cM (iz (ic hz (aQ λz=>qm (List.eq_nil_of_length_eq_zero (Int.ofNat.inj z)))))) fc))))
theorem J4 {a b c:Int}:Dp 6 (.tuple [.int a, .int b, .int c]):=bO trivial (bO trivial (bO trivial i5))
theorem GR (v:ig H w m ak es a7 bl tc)(f:Nat->Option SV)(cuts:Int)(R:au):aK P R (bx 8 yL) (gO w m a7 cuts f) H= .next (gO w m a7 cuts f) H:=by
 refine j8 (r7 es e0) λpre e h1 h2 h3=> ?_
 have hL:=v.hL
 have em:=ca hL
 rw [bI,dq] at em
 rw [h1,eG] at hL
 have hm:=v.ms.hm
 rw [lm,mV] at hm
 exact ae (cD (an (db (aa (aF rfl hm rfl) (aa (aF rfl hm rfl) (aa (aF rfl hm rfl) af)))) (db (aa (bu (aa rfl af) em) (aa (v:= .int (eI a0.term es)) (aN (aN rfl rfl (el hL)) rfl (o:= .ok (.int (eI a0.term es)) _) (by rw [show eI a0.term es=e.term from h2.symm];rfl)) (aa rfl af)))) (rY (λu8 z=>nomatch z) J4)) aj) aj
end
theorem Ir {k:Nat}(h:k=s.told.length):(dz ak s (some k)).told.length=k+1:=by
 have hk:¬k<s.told.length:=λz=>Nat.lt_irrefl _ (h▸z)
 have hl:∀x,(s.told++ [x]).length=k+1:=λx=>List.length_append.trans (congrArg (·+1) h.symm)
 by_cases z:(!decide ((ak.getD k dA).c.kind=5)&&iw ak (s.done (ak.getD k dA).dD))=true
 ·rw [wB hk z];exact hl _
 ·rw [r5 hk z];exact hl _
section
variable {H:HP}{w:Wd}{m:Mc}{ak:List bg}{es:List bo}{a7:Nat}{bl:List (Nat×List Op)}
theorem wR (v:ig H w m ak es a7 bl ak.length)(a:Dr)(f:Nat->Option SV)(cuts:Int)(d:Nat)(h:aK P (run P (d+7)) (bx 5 wn) (gM w m a7 cuts f a (es.length+1) ⟨eI 1 es+a.x%2, .none,fL 1 es, -1,0,f 26⟩) H=o):aK P (run P (d+7)) wn (vN w m a7 cuts f a (es.length+1)) H=o:=by
 refine j8 (r7 es e0) λpre e p1 p2 p3=> ?_
 have hL:=v.hL
 rw [p1,eG] at hL
 have p2:eI 1 es=e.term:=p2.symm
 have p3:fL 1 es=e.mem:=p3.symm
 rw [p2,p3] at h
 exact ae (bJ (aJ (aN (aN rfl rfl (el hL)) rfl (o:= .ok (.int e.term) _) rfl) (aJ rfl rfl (fG (by decide) (by decide))) rfl)) (ae (bJ (aN (aN rfl rfl (el hL)) rfl (o:= .ok (.int e.mem) _) rfl)) (ae (bJ rfl) (ae (bJ rfl) (ae (bJ rfl) h))))
theorem A1 (v:ig H w m ak es a7 bl ak.length)(a:Dr)(wW:H[a.mr]? =some (.list (dn (gq ak a.w))))(em:es.length<20)(h2:¬(a.act=2/\a.y%4=3))(ZE:a.act≠0/\a.act≠1)(RL:gq ak a.w= []->a.act≠3/\a.act≠4)(lG:a.act=2->ak≠ [])(ha:0<=a.act)(f:Nat->Option SV)(cuts:Int)(d:Nat){C:Prop}
  (K:∀f' H' ye e cC vt,aK P (run P (d+7)) wn (vN w m a7 cuts f a (es.length+1)) H= .next (gO w m (cC:Nat) cuts f') H'->ig H' w m ye (es++ [e]) cC vt ye.length->ye≠ []->C):C:=by
 have Gw:=v.m1
 have TV:=v.m3
 have RZ:0<=eI 1 es+a.x%2:=Int.add_nonneg v.t0 (Int.emod_nonneg _ (by decide))
 have SH:eI 1 es+a.x%2<=2+es.length:=by
  have h1:=v.t1
  have h2:=Int.emod_lt_of_pos a.x (show (0:Int)<2 by decide)
  lia
 by_cases q2:a.act=2
 ·refine Gq (H:=H) (w:=w) (m:=m) (s:=a7) (c:=cuts) (n:=es.length+1) a (λz=>h2 ⟨q2,z⟩) Gw TV f (eI 1 es+a.x%2) (f 26) d λf' H2 cf cm nX kind data e2 g2 w2 c2 m2 b1 b3=> ?_
  exact pM (v.ke g2.ke) (e:=⟨eI 1 es+a.x%2,nX, .ref H2.length,none,cf⟩) rfl w2 c2 m2 (λk h=>nh h) (lG q2) RZ SH b1 b3 em v.told (Nat.le_succ_of_le v.HK) a f' cuts d λf3 H3 sq MI e3 v3=>
   K f3 H3 ak _ sq MI (wR v a f cuts d (ae (eZ (ki rfl (bf q2)) e2) e3)) v3 (lG q2)
 have vz:=v.told
 by_cases q5:a.act<5
 ·refine zy (w:=w) (m:=m) (s:=a7) (c:=cuts) (n:=es.length+1) a wW (λz=>by
   have:=RL z
   lia) q5 (by have:=v.HK;lia) f (eI 1 es+a.x%2) .none (fL 1 es) 0 (f 26) (run P (d+7)) λk hk e1=> ?_
  have Kh:=(xp hk).1
  have HM:ak≠ []:=λz=>by rw [z] at Kh;exact absurd Kh (Nat.not_lt_zero _)
  refine xD (H:=H) (m:=m) (s:=a7) (c:=cuts) (n:=es.length+1) v.ok v.hA Kh a f (eI 1 es+a.x%2) .none (fL 1 es) 0 (f 26) d λf' H2 u e2 g2 w2=> ?_
  exact pM (v.ke g2.ke) (e:=⟨eI 1 es+a.x%2,fL 1 es, .ref H2.length,some k, .none⟩) rfl w2 .no (.inl ⟨rfl,rfl⟩) (λj h=>cq h▸⟨Kh,vz.symm▸Nat.le_of_lt Kh⟩) HM RZ SH Gw TV em (by rw [rJ (vz.symm▸Kh)];exact vz) (Nat.le_succ_of_le v.HK) _ f' cuts d λf3 H3 sq MI e3 v3=>
   K f3 H3 ak _ sq MI (wR v a f cuts d (ae (cD (ki rfl (aQ q2)) (ae e1 e2)) e3)) v3 HM
 ·refine J1 v a wW q5 f cuts (eI 1 es+a.x%2) .none (fL 1 es) 0 (f 26) d λf1 H1 x e1 v1=> ?_
  have hle:(ak++ [x]).length=ak.length+1:=aL
  have Kh:ak.length<(ak++ [x]).length:=hle▸Nat.lt_succ_self _
  have HM:ak++ [x]≠ []:=λz=>nomatch hle.symm.trans (congrArg List.length z)
  refine xD (H:=H1) (m:=m) (s:=a7) (c:=cuts) (n:=es.length+1) v1.ok v1.hA Kh a f1 (eI 1 es+a.x%2) .none (fL 1 es) 0 (f 26) d λf' H2 u e2 g2 w2=> ?_
  have vz:=v1.told
  exact pM (v1.ke g2.ke) (e:=⟨eI 1 es+a.x%2,fL 1 es, .ref H2.length,some ak.length, .none⟩) rfl w2 .no (.inl ⟨rfl,rfl⟩) (λj h=>cq h▸⟨Kh,vz.symm▸bS _⟩) HM RZ SH Gw TV em (KD:=(ak++ [x]).length) (by rw [Ir vz.symm,hle]) (hle▸Nat.succ_le_succ v.HK) _ f' cuts d λf3 H3 sq MI e3 v3=>
   K f3 H3 _ _ sq MI (wR v a f cuts d (ae (cD (ki rfl (aQ q2)) (ae e1 e2)) e3)) v3 HM
end
theorem P4 (x:Int){C:Prop}(K:∀u:Bool,x%2=wi u->C):C:=(Int.emod_two_eq x).elim (K false) (K true)
section
variable {w:Wd}
theorem turn {a7:Nat}(v:ig H w m ak es a7 bl ak.length){i:Nat}(hi:i<6)(hle:es.length<=i)(HM:i≠0->ak≠ [])(f:Nat->Option SV)(cuts:Int)(d:Nat){C:Prop}
  (K:∀f' H' m' ye DE cC nB vt,aK P (run P (d+7)) yL (al (gO w m a7 cuts f) 10 (.int (0+(i:Int)))) H= .next (gO w m' (cC:Nat) nB f') H'->ig H' w m' ye DE cC vt ye.length->DE.length<=i+1->ye≠ []->C):C:=by
 have CA:ak.length<=i:=cy v.HK hle
 have e1:=w8 v.hn v.n0 v.n1 (1+i) (d+6)
 generalize DQ w.ns (1+i)=x at*
 refine P4 (x/8) λu hu=> ?_
 have VO:=ca v.hA
 rw [bI] at VO
 have e5:=Eu (R:=run P (d+7)) (i:=15) (it:= .bH .range (.cons (.bH .len (.cons (.loc 7) .nil)) .nil)) (l:=al (al (al (al (al (gO w m a7 cuts f) 10 (.int (0+(i:Int)))) 1 (.int x)) 11 (.int (x%8))) 12 (.int (x/8))) 13 (.int (wi u))) (bu (aa (bu (aa rfl af) VO) af) (kX (by lia))) (Ce (w:=u) v.hA (by lia) rfl rfl)
 have v1:=v.ke (Gr.ke ⟨[SO.list (dn (gq ak u))],rfl⟩)
 have wW:(H++ [SO.list (dn (gq ak u))])[H.length]? =some (.list (dn (gq ak u))):=dU ..
 have wF:=ca v1.hL
 rw [bI,dq] at wF
 generalize H.length=mr at*
 generalize H++ [SO.list (dn (gq ak u))]=H1 at*
 have b1:cF .add (.int 1) (.int (0+(i:Int))) H= .ok (.int ((1+i:Nat):Int)) H:=congrArg (λz=>du.ok (SV.int z) H) (by lia)
 refine GM (i:=i) (x:=x) (cuts:=cuts) wW (Int.emod_nonneg x (by decide)) (Int.emod_lt_of_pos x (by decide)) (l:=al (al (al (al (al (al (al (gO w m a7 cuts f) 10 (.int (0+(i:Int)))) 1 (.int x)) 11 (.int (x%8))) 12 (.int (x/8))) 13 (.int (wi u))) 15 (.ref mr)) 16 (.int ((es.length+1:Nat):Int))) rfl rfl rfl rfl rfl (run P (d+7)) λact e7 UJ a8 am ai=> ?_
 have go:∀{f' :Nat->Option SV} {H' :HP} {m' :Mc} {ye:List bg} {DE:List bo} {cC:Nat} {nB:Int} {vt:List (Nat×List Op)},gJ P (run P (d+7)) Hc (vN w m a7 cuts (fr (al (gO w m a7 cuts f) 10 (.int (0+(i:Int))))) ⟨x,act,x/8,u,mr⟩ (es.length+1)) H1= .next (gO w m' (cC:Nat) nB f') H'->ig H' w m' ye DE cC vt ye.length->DE.length<=i+1->ye≠ []->C:=λ{f' H' m' ye DE cC nB vt} h v' =>
  K f' H' m' ye DE cC nB vt (ae (bJ (cz (aa rfl (aa (aJ rfl rfl b1) af)) e1)) (ae (bJ (aJ rfl rfl (fG (by decide) (by decide)))) (ae (bJ (aJ rfl rfl (mM (by decide) (by decide)))) (ae (bJ (v:= .int (wi u)) (aJ (x:= .int (x/8)) (y:= .int 2) rfl rfl (hu▸fG (by decide) (by decide)))) (ae e5 (ae (bJ (bu (aa rfl af) wF)) (ae e7 (ae h (GR v' f' nB _))))))))) v'
 have MR:=Nat.le_succ_of_le hle
 by_cases q5:act=5
 ·subst q5
  exact A1 v1 ⟨x,5,x/8,u,mr⟩ wW (by lia) (λz=>absurd z.1 (show (5:Int)≠2 by decide)) ⟨(show (5:Int)≠0 by decide),(show (5:Int)≠1 by decide)⟩ (λu8=>⟨(show (5:Int)≠3 by decide),(show (5:Int)≠4 by decide)⟩) (λz=>absurd z (show (5:Int)≠2 by decide)) UJ _ cuts d λf' H2 Vc e D9 OM c1 c2 c3=>
   go (cD (ki rfl rfl) (ae (cD (ki rfl rfl) (ae (cD (cM (iz (ki rfl rfl))) c1) aj)) aj)) c2 (cy (Nat.le_of_eq aL) (Nat.succ_le_succ hle)) c3
 have i0:ak≠ []:=HM λz=>q5 (ai z)
 by_cases q0:act=0
 ·exact JH v1 ⟨x,act,x/8,u,mr⟩ _ cuts d λf' H2 m2 D9 OM c1 c2=>go (eZ (ki rfl (bf q0)) c1) c2 MR i0
 by_cases q1:act=1
 ·exact DT v1 ⟨x,act,x/8,u,mr⟩ _ cuts d λf' H2 c1 c2=>go (cD (ki rfl (aQ q0)) (ae (eZ (ki rfl (bf q1)) c1) aj)) c2 MR i0
 by_cases q2:act=2/\x/8%4=3
 ·exact Id v1 ⟨x,act,x/8,u,mr⟩ _ cuts d λf' H2 c1 c2=>go (cD (ki rfl (aQ q0)) (ae (cD (ki rfl (aQ q1)) (ae (eZ (cM (dM (ki rfl (bf q2.1)) (dM (ic (aJ rfl rfl (fG (by decide) (by decide))) (bf q2.2)) fN))) c1) aj)) aj)) c2 MR i0
 exact A1 v1 ⟨x,act,x/8,u,mr⟩ wW (by lia) q2 ⟨q0,q1⟩ am (λu8=>i0) UJ _ cuts d λf' H2 Vc e D9 OM c1 c2 c3=>
  go (cD (ki rfl (aQ q0)) (ae (cD (ki rfl (aQ q1)) (ae (cD (cM (by
   by_cases z:act=2
   ·exact dM (ki rfl (bf z)) (iz (ic (aJ rfl rfl (fG (by decide) (by decide))) (aQ λy=>q2 ⟨z,y⟩)))
   ·exact iz (ki rfl (aQ z)))) c1) aj)) aj)) c2 (cy (Nat.le_of_eq aL) (Nat.succ_le_succ hle)) c3
theorem QB (d:Nat){C:Prop}(n:Nat):∀(i:Nat) {H:HP} {m:Mc} {ak:List bg} {es:List bo} {a7:Nat} {bl:List (Nat×List Op)} (f:Nat->Option SV) (cuts:Int),i+n=6->ig H w m ak es a7 bl ak.length->es.length<=i->(i≠0->ak≠ [])->
  (∀f' H' m' ye DE cC nB vt,forLoop [10] (λl H=>aK P (run P (d+7)) yL l H) (.range 0 (6:Nat)) (n+1) i (gO w m a7 cuts f) H= .next (gO w m' (cC:Nat) nB f') H'->ig H' w m' ye DE cC vt ye.length->C)->C:=by
 induction n with
 |zero=>
  intro i H m ak es a7 bl f cuts hn v hle HM K
  obtain rfl:i=6:=hn
  exact K f H m ak es a7 cuts bl (jr qu) v
 |succ n ih=>
  intro i H m ak es a7 bl f cuts hn v hle HM K
  have hi:i<6:=by lia
  exact turn v hi hle HM f cuts d λf2 H2 m2 Vc Zn D9 O2 OM b1 v2 d3 d4=>ih (i+1) f2 O2 (by lia) v2 d3 (λu8=>d4) λf3 H3 m3 Ww Xm sq NQ MI c1 v3=>K f3 H3 m3 Ww Xm sq NQ MI (fA (pA hi) rfl b1 c1) v3
end
theorem u2:∀bl:List (Nat×List Op),fM bl=((bl.map (·.2)).map λo=>(o.length:Int)).sum
 | []=>rfl
 |p::r=>by
  show (p.2.length:Int)+fM r=_
  rw [dZ,dZ,List.sum_cons,u2 r]
theorem Jp {si di bi:Nat}{aU aW:Int}{b:SV}(hs:H[si]? =some (bF di bi aU aW))(hw:Wb H0 [] H)(d:Nat):run P (d+2) 86 [.ref si, .ref H0.length,b] H= .exc 5 H:=
 lh rfl rfl rfl (gY (eZ (an (aw (R:=run P (d+1)) rfl (o0 hw (f:=37) rfl (by decide) (by decide)) af (Go (d:=d) hw)) rfl rfl) (gY (qC rfl))))
theorem Bv:bU .ne (.bool a) (.bool a) H=some false:=by cases a<;>rfl
section
variable {H:HP}{w:Wd}{m:Mc}{ak:List bg}{es:List bo}{a7:Nat}{bl:List (Nat×List Op)}{tc:Nat}
theorem ig.aO (v:ig H w m ak es a7 bl tc)(d:Nat):run P (d+1) 89 [.ref m.si] H= .ok (.bool (decide ((a7:Int)=((es.length+1:Nat):Int)))) H:=by
 have h:=lS v.ms.cI.st v.ms.cI.bb d
 rw [bI,v.ms.len] at h
 exact h
theorem ig.whole (v:ig H w m ak es a7 bl tc)(d:Nat):∃H',run P (d+7) 100 [.ref m.si, .ref m.mi, .ref w.lg, .ref w.fQ] H= .ok (.bool true) H' :=by
 have em:=v.len
 refine j8 (r7 es e0) λpre e p1 p2 p3=> ?_
 have Wk:pre.length=es.length:=Nat.succ.inj ((congrArg List.length p1).trans aL).symm
 refine rB v.MB λsim u8 L6=> ?_
 have K3:=v.VI
 have hL:=v.hL
 have Uj:=v.wf
 have U1:=tV (t:=1) v.hE (by decide) (by decide)
 have Fp:=mV (ak:=ak) (es:=es) (a:=a0)
 have vI:fM bl=(cE ak mT (e0::es)).ec.sum:=by
  rw [u2,v.ms.Pj,L6]
  rfl
 have wF:(pre++ [e]).length=es.length+1:=by rw [<-p1];rfl
 rw [p1] at hL Uj sim K3 vI
 exact BM v.ms.hm v.ms.cI v.Ow hL v.hA v.ok Uj (by lia) sim (by rw [wF,Nat.add_comm];exact K3) (by rw [p3];exact cy v.m3 (by decide)) (by rw [lm,Wk]) (Fp.trans p2.symm) (by rw [Fp];exact U1.1) (by rw [Fp];exact U1.2) ((ji (m:=1) rfl).trans (by rw [p3];rfl)) vI d
theorem JY (v:ig H w m ak es a7 bl tc)(f:Nat->Option SV)(cuts:Int)(d:Nat):∃H',aK P (run P (d+7)) (bx 13 un) (gO w m a7 cuts f) H= .ret (.bool true) H' :=by
 refine pw (H:=H) (xs:= [7]) (l:=al (al (gO w m a7 cuts f) 36 (.bool (decide ((a7:Int)=((es.length+1:Nat):Int))))) 37 (.int 0)) (e:= .list (.cons (.int 7) .nil)) (d+5) (bG (aa rfl af)) ⟨_,rfl⟩ (dU ..) (List.pairwise_singleton _ _) (by decide) λH1 k e1 SB c1=> ?_
 have e2:=IJ (x:= .int 7) (y:= .int 7) (z:= .ref k) (SB.at v.ms.hm) (v.ms.cI.gr SB) (d+5)
 have v1:=v.ke SB.ke
 refine aZ (Ac (d+6) (al (al (al (gO w m a7 cuts f) 36 (.bool (decide ((a7:Int)=((es.length+1:Nat):Int))))) 37 (.int 0)) 37 (.int (0+1))) H1) λH2 e3 w3=> ?_
 have e4:=Jp (b:= .bool true) (w3.gr.at v1.ms.cI.st) w3 (d+5)
 have v2:=v1.ke w3.gr.ke
 have wF:=ca v2.hL
 rw [bI,dq] at wF
 obtain ⟨H3,e6⟩:=v2.whole d
 exact ⟨H3,ae (bJ (aw (q:= .fn 89) (v:= .ref m.si) rfl (bN v.ms.cI.st) af (v.aO (d+6)))) (ae (bJ rfl) (ae (vB (u0 (yX (aw (q:= .fn 73) (v:= .ref m.mi) (R:=run P (d+7)) rfl (bN v.ms.hm) (aa rfl (aa rfl (aa e1 af))) e2))) rfl)
  (ae (vB (u0 (yX (aw (q:= .fn 86) (v:= .ref m.si) (R:=run P (d+7)) rfl (bN v1.ms.cI.st) (aa e3 (aa rfl af)) e4))) rfl) (ae (vB (u0 (yX (aw (q:= .fn 91) (v:= .ref m.si) (R:=run P (d+7)) (vs:= [.none, .none, .int 1]) (H2:=H2) rfl (bN v2.ms.cI.st) (aa rfl (aa rfl (aa rfl af))) (MQ (si:=m.si) (x:= .none) (y:= .none) (n:=1) (d+6))))) rfl)
   (ae (cD (fC (da (an rfl rfl rfl) (da (an rfl (fU rfl (bu (aa rfl af) wF) (i7 _ _ _)) Bv) (da (an (aw (q:= .fn 89) (v:= .ref m.si) (R:=run P (d+7)) rfl (bN v2.ms.cI.st) af (v2.aO (d+6))) rfl Bv) fc)))) aj)
    (aY (bK (cz (aa rfl (aa rfl (aa rfl (aa rfl af)))) e6))))))))⟩
end
section
variable {H:HP}{si di bi mi:Nat}{aU aW:Int}{sync:Bool}
theorem O5 (hm:H[mi]? =some (aX si 0 0 [] 0 sync))(cI:eK H si di bi jU [] aU aW)(d:Nat):∃H',run P (d+2) 81 [.ref mi] H= .ok (.ref H.length) H' /\H'[H.length]? =some (.list [])/\Gr H H' :=by
 have g:Gr H (H++ [SO.list []]):=⟨_,rfl⟩
 refine aZ cI.dd λso d1 d2=> ?_
 have e1:=wZ (lo:=some [100]) (hi:=some [101]) (g.at cI.st) (g.at d1) d2 d
 rw [aL,nf] at e1
 have hx:(H++SO.list []::([]++ [SO.list [],SO.list []]))[H.length+1]? =some (.list []):=rX
 exact ⟨_,aE rfl rfl (ae (bJ (bG af)) (ae (f_ (v:= .ref (H.length+1)) (aw (q:= .fn 91) (v:= .ref si) (aF rfl (g.at hm) rfl) (bN (g.at cI.st)) (aa rfl (aa rfl (aa rfl af))) e1) (jr (eB hx 0))) (aY (bK rfl)))),nQ,⟨_,rfl⟩⟩
theorem N0 (hm:H[mi]? =some (aX si 0 0 [] 0 sync))(cI:eK H si di bi jU [] aU aW)(d:Nat):∃H',run P (d+2) 82 [.ref mi] H= .ok (.ref H.length) H' /\H'[H.length]? =some (.list [])/\Gr H H' :=by
 have g:Gr H (H++ [SO.list []]):=⟨_,rfl⟩
 refine aZ cI.dd λso d1 d2=> ?_
 have e1:=wZ (lo:=some [115]) (hi:=some [116]) (g.at cI.st) (g.at d1) d2 d
 rw [aL,nf] at e1
 have hx:(H++SO.list []::([]++ [SO.list [],SO.list []]))[H.length+1]? =some (.list []):=rX
 exact ⟨_,aE rfl rfl (ae (bJ (bG af)) (ae (f_ (v:= .ref (H.length+1)) (aw (q:= .fn 91) (v:= .ref si) (aF rfl (g.at hm) rfl) (bN (g.at cI.st)) (aa rfl (aa rfl (aa rfl af))) e1) (jr (eB hx 0))) (aY (bK rfl)))),nQ,⟨_,rfl⟩⟩
theorem Ss (hm:H[mi]? =some (aX si 0 0 [] 0 sync))(cI:eK H si di bi jU [] aU aW)(d:Nat){C:Prop}(K:∀H',run P (d+3) 83 [.ref mi] H= .ok (.tuple [.int 0, .int 0, .bytes [], .tuple [], .tuple []]) H'->Gr H H'->C):C:=by
 refine mq (O5 hm cI d) λH1 e1 h1 g1=> ?_
 refine mq (N0 (g1.at hm) (cI.gr g1) d) λH2 e2 h2 g2=> ?_
 exact K H2 (aE rfl rfl (aY (bK (db (aa (aF rfl hm rfl) (aa (aF rfl hm rfl) (aa (aF rfl hm rfl) (aa (bu (aa (aw (q:= .fn 81) (v:= .ref mi) (R:=run P (d+2)) rfl (bN hm) af e1) af) (fZ h1)) (aa (bu (aa (aw (q:= .fn 82) (v:= .ref mi) (R:=run P (d+2)) rfl (bN (g1.at hm)) af e2) af) (fZ h2)) af))))))))) (g1.trans g2)
end
noncomputable def n7 (xs:List Int):List Int:=xs.map λx=>x%999983
theorem Hp (lO:xs.length<=7)(l:cR):gu 1 (.one (.bin .mod (.loc 1000) (.int 999983))) none (.ref 0) l [.list (iL xs)]=some (iL (n7 xs)):=by
 have f1:([.list (iL xs)]:HP)[0]? =some (.list (iL xs)):=rfl
 have c1:=pd (w:=1) (k:= .one (.bin .mod (.loc 1000) (.int 999983))) (t:=none) (v:= .ref 0) (l:=l) (p:=λu8=>true) (enc:=SV.int) (f:=λx=> .int (x%999983)) (xs:=xs) (eB f1) ((dY f1).trans (bI _)) rfl (λx hx=>⟨[.int x],rfl,rfl,λu8=>rfl⟩) (by exact lA ‹_› rfl)
 rw [jR] at c1
 exact c1.trans (congrArg some (List.map_map ..).symm)
theorem NF {Rq:Nat}(f2:H[Rq]? =some (.list (iL ns)))(Xd:ns.length<1000)(h2:∀v,(al l 2 v)[2]? =some (some v))(R:au){C:Prop}
  (K:∀H' nm ns,Gr H H'->H'[nm]? =some (.list (iL ns))->ns.length≠0->ns.length<1000->(∀o,aK P R (bx 2 un) (al l 2 (.ref nm)) H' =o->aK P R (bx 1 un) (al l 2 (.ref Rq)) H=o)->C):C:=by
 have wF:=ca f2
 rw [show (iL ns).length=ns.length from bI _] at wF
 have hz:=bu (R:=R) (b:= .len) (aa (bc (i:=2) (h2 (.ref Rq))) af) wF
 by_cases q:ns= []
 ·exact K _ _ [8] ⟨_,rfl⟩ (dU ..) (by decide) (by decide) λo ho=>ae (eZ (ic hz (by rw [q];rfl)) (ae (bJ (bG (aa rfl af))) aj)) ((congrArg (aK P R (bx 2 un) · _) uY).trans ho)
 ·exact K _ _ ns ⟨[],(ch _).symm⟩ f2 (λz=>q (List.eq_nil_of_length_eq_zero z)) Xd λo ho=>ae (cD (ic hz (aQ λz=>q (List.eq_nil_of_length_eq_zero (Int.ofNat.inj z)))) aj) ho
theorem xf {mi j:Nat}(hm:H[mi]? =some o')(k:Kx [mi] H H')(h:H[j]? =some o)(ho:o≠o'):H'[j]? =some o:=k _ _ (λq=>cW h hm ho (eF q)) h
theorem eK.U8 {si di bi mi:Nat}{aU aW i t dd:Int}(h:eK H si di bi D [] aU aW)(hm:H[mi]? =some (aX si i t c dd b))(k:Kx [mi] H H'):eK H' si di bi D [] aU aW:=by
 refine aZ h.dd λso d1 d2=> ?_
 exact ⟨xf hm k h.st λz=>(nomatch z),⟨so,xf hm k d1 (en d2),d2⟩,xf hm k h.bb λz=>(nomatch z),λu8 hp=>j1 hp⟩
noncomputable def l0:cR:= [none,none,none,none,none,none,none,none,none,none,none,none,none,none,none,none,none,none,none,none,none,none,none,none,none,none,none,none,none,none,none,none,none,none,none,none,none,none]
theorem Es (lO:xs.length<=7)(d:Nat):∃H',aK P (run P (d+7)) (bx 1 un) (al l0 2 (.ref 1)) [.list (iL xs), .list (iL (n7 xs))]= .ret (.bool true) H' :=by
 refine NF (H:= [.list (iL xs), .list (iL (n7 xs))]) (Rq:=1) (ns:=n7 xs) rfl (by rw [show (n7 xs).length=xs.length from bI _];exact lC ‹_› rfl) (l:=l0) (λu8=>rfl) (run P (d+7)) λH3 nm ns g3 hn n0 n1 f3=> ?_
 have e2:=w8 hn n0 n1 0 (d+6)
 generalize DQ ns 0=mu at*
 have Zw:=(gw hn).1
 have e3:=vi (d+6) (al (al l0 2 (.ref nm)) 3 (.int mu)) H3
 have g4:Gr H3 (H3++ [bF (H3.length+1) (H3.length+2) 0 0,SO.aM,SO.list []]):=⟨_,rfl⟩
 have YN:=pE H3 []
 have ZA:(H3++ [bF (H3.length+1) (H3.length+2) 0 0,SO.aM,SO.list []]).length=H3.length+3:=aL
 generalize H3++ [bF (H3.length+1) (H3.length+2) 0 0,SO.aM,SO.list []]=H4 at*
 generalize H3.length=si at*
 have f5:(H4++ [aX si 0 0 [] 0 false])[H4.length]? =some (aX si 0 0 [] 0 false):=dU ..
 have e4:=lF (R:=run P (d+7)) (l:=al (al (al l0 2 (.ref nm)) 3 (.int mu)) 4 (.ref si)) (c:=15) (es:= .cons (.loc 4) .nil) (aa (v:= .ref si) rfl af) rfl (xl (si:=si) (d+6) H4)
 have g5:Gr H4 (H4++ [aX si 0 0 [] 0 false]):=⟨_,rfl⟩
 have TP:=YN.gr g5
 have Sa:=g5.at (g4.at hn)
 generalize H4.length=mi at*
 generalize H4++ [aX si 0 0 [] 0 false]=H5 at*
 refine Ss f5 TP (d+4) λH6 e5 g6=> ?_
 refine LM (g6.at f5) (TP.gr g6) (d+4) λH7 e6 m7 k7=> ?_
 have Zh:=(TP.gr g6).U8 (g6.at f5) k7
 have Wo:=xf (g6.at f5) k7 (g6.at Sa) λz=>nomatch z
 have m8:=eA (o:=aX si 0 0 [] 0 (decide (mu%3=1))) m7
 have VW:=Zh.U8 m7 (pJ (X:= [mi]) (o:=aX si 0 0 [] 0 (decide (mu%3=1))) (.head _))
 have Yu:=xf m7 (pJ (X:= [mi]) (o:=aX si 0 0 [] 0 (decide (mu%3=1))) (.head _)) Wo λz=>nomatch z
 have e7:bD P (.ref mi) 59 (.bool (decide (mu%3=1))) H7=some (H7.set mi (aX si 0 0 [] 0 (decide (mu%3=1)))):=mm m7 rfl (show 6<100 by decide) rfl
 generalize H7.set mi (aX si 0 0 [] 0 (decide (mu%3=1)))=H8 at*
 refine pw (H:=H8) (xs:= [1]) (l:=al (al (al (al l0 2 (.ref nm)) 3 (.int mu)) 4 (.ref si)) 5 (.ref mi)) (e:= .list (.cons (.int 1) .nil)) (d+5) (bG (aa rfl af)) ⟨_,rfl⟩ (dU ..) (List.pairwise_singleton _ _) (by decide) λH9 kc e8 g9 c9=> ?_
 refine My (g9.at m8) (VW.gr g9) c9 (λx hx=>by rw [eF hx];decide) (by decide) (d+1) λQL q e9 Zf Tq Xi=> ?_
 have Th:=Xi _ _ (by simp only [List.mem_cons,List.not_mem_nil,or_false,not_or];lia) (g9.at Yu)
 have TA:Gr QL ((QL++ [SO.list [e0.sv]])++ [SO.list []]):=Gr.trans ⟨_,rfl⟩ ⟨_,rfl⟩
 refine QB (w:=⟨nm,QL.length,(QL++ [SO.list [e0.sv]]).length,ns,decide (mu%3=1)⟩) d 6 0 (m:=⟨mi,si,si+1,si+2⟩) (H:=(QL++ [SO.list [e0.sv]])++ [SO.list []]) (ak:= []) (es:= []) (a7:=1) (bl:= [(q, [Op.put [97] (fz 1 1 (dC [1]))])]) (fr (al (al l0 2 (.ref nm)) 3 (.int mu))) 0 rfl
  {hn:=TA.at Th,n0:=n0,n1:=n1,hL:=Gr.at ⟨_,rfl⟩ (dU ..),hA:=dU ..,ms:=⟨TA.at Zf,Tq.gr TA,rfl⟩,hE:=trivial,ok:=⟨λu8 h=>j1 h⟩,up:=⟨λu8 u8 u8 h=>absurd h (Nat.not_lt_zero _)⟩,wf:=⟨λu8 h=>(nomatch h),trivial⟩,told:=rfl,num:=λu8 h=>(j1 h),len:=Nat.zero_le _,HK:=bS _,s1:=bS _,s2:=bS _,s3:=λu8=>rfl,t0:=by decide,t1:=by decide,m1:=by decide,m3:=by decide,ne:=λu8=>rfl} (bS _) (λz=>absurd rfl z) λf' Zs m' ye DE cC nB vt c1 c3=> ?_
 obtain ⟨Ya,Kc⟩:=JY c3 f' nB d
 exact ⟨Ya,f3 _ (ae (bJ (cz (aa rfl (aa rfl af)) e2)) (ae (bJ e3) (ae (bJ e4)
  (ae (cD (fC (da (an (aw (q:= .fn 83) (v:= .ref mi) (R:=run P (d+7)) rfl (bN f5) af e5) (db (aa rfl (aa rfl (aa rfl (aa (db af) (aa (db af) af)))))) rfl) (da (an (aw (q:= .fn 70) (v:= .ref mi) (R:=run P (d+7)) rfl (bN (g6.at f5)) af e6) (db (aa rfl (aa rfl (aa rfl af)))) rfl) fc))) aj)
  (ae (bV (fU (aJ rfl rfl (fG (by decide) (by decide))) rfl (i7 _ _ _)) rfl e7) (ae (bX (aw (q:= .fn 73) (v:= .ref mi) rfl (bN m8) (aa rfl (aa rfl (aa e8 af))) e9))
  (ae (bJ (bG (aa (db (aa rfl (aa rfl (aa rfl (aa rfl (aa rfl af)))))) af))) (ae (bJ (bG af)) (ae (bJ rfl) (ae (bJ rfl)
  (ae (f_ (v:= .range 0 (6:Nat)) (bu (aa rfl af) (kX (n:=6) (by decide))) c1) Kc)))))))))))⟩
end Mine
namespace Mine
open PySem PySem.W PySem.Calls PyProof.Rows PySem.Spec
theorem yJ:Good ⟨.builtin "claim.caller" {},none,none, [],none⟩:=⟨by decide+kernel,λq hq=>j1 hq⟩
theorem x8 {R:Result->Shared->Prop}(Md:s.asleep)
  (h:aG (model prog w) callerA t (λeR s' =>∃f,eR= .done f/\(R (.ok f) s' /\leftWithCleanup s'.gens=false)) (λe s' =>R (.error e) s' /\leftWithCleanup s'.gens=false) s):
  ∃n r s' nU,runN (denote table) prog w n s ⟨t, .builtin "claim.caller" {},default, []⟩= .halted (outcomeOf r) s' /\
   schedN (denote table) prog w n (.single s ⟨t, .builtin "claim.caller" {},default, []⟩)= .halted (outcomeOf r) s' /\s'.forget=nU.forget/\R r nU:=by
 have k:Sem.wp (model prog w) ⟨.builtin "claim.caller" {},none,none, [],none⟩ t (Sem.finPost (model prog w) ⟨.builtin "claim.caller" {},none,none, [],none⟩ λr s' =>R r s' /\leftWithCleanup s'.gens=false)
   (λe u8 s' =>R (.error e) s' /\leftWithCleanup s'.gens=false) default s:=
  Sem.wp_mono _ _ t (λeR p' s' h' =>by obtain ⟨f,rfl,hf⟩:=h';exact hf) (λu8 u8 u8 h' =>h') _ _ (h _ default caller_in yJ)
 refine St (wp_halts_full (M:=model prog w) (R:=R) Md k) λn r a b h1 h2 h3 h4=> ?_
 exact ⟨n,r,b,a,h2,h1,h3,h4⟩
end Mine
set_option maxHeartbeats 1000000
namespace Mine
open PySem PySem.W PySem.Calls PyProof.Rows PySem.Spec
noncomputable section
theorem AO:chainsOk q1=true:=by kernel_rfl
theorem KO:LeftO qP q1 pS (λu8=>true) (λs=>s.heap) (λw=>HT w.params) 7200:=
 LeftO.of_pieces (H₀:=boot_heap) (H₁:=HT) (boot_open PB rfl λs=>congrFun Li s) Po Se rfl λw=>funext λos=>Prod.ext (congrFun (OL w) os) (Prod.ext (congrFun (Pn w) os) rfl)
noncomputable abbrev YL (w:World)(h:Heap):Prop:=∀b o,(HT w.params).get? b=some o->h.get? b=some o
noncomputable def c1 (w:World)(s₀ s:Shared)(mg mb:Str->Option Value):Cx:=⟨qP,w,KF w.params,S0,P,q1,looseW q1 pS,ExcName.means s₀.heap,mg,mb,s.heap,s.heap, [],callerA,zs "",qP.main.scope,0,0, .none, [],s.gens,s.drawn,s.os⟩
theorem LI:S0.glob.lookup (zs "law")=some (.fn 101):=by kernel_rfl
theorem QO:dL.name=zs "law":=by kernel_rfl
theorem Mo (w:World):E3 (KF w.params) S0 X0 101 ⟨"",1, [],38,true,un⟩ 2 1 (.one (.bin .mod (.loc 1000) (.int 999983))) .none (bx 1 un):=Ev.get (RP w)
theorem ints_list {R:WRecords}{d:WData}(h:WShape.has R d (.list .int)=true):∃xs:List Int,d= .list (xs.map WData.int):=by
 obtain ⟨ys,rfl,h1⟩:=hasW_list h
 obtain ⟨xs,rfl⟩:=items_int h1
 exact ⟨xs,rfl⟩
theorem F3 {Rr:WRecords}{Pm:Params}{h:Heap}{args:List WData}{vals:List Value}(hs:WShape.hasAll Rr args [.list .int]=true)(hw:WellAll Pm h vals args){C:Prop}
  (k:∀(xs:List Int) (aC:List Value) (b:Addr),args= [.list (xs.map WData.int)]->vals= [.ref b]->h.IsList b aC.toArray->(∀{ac ah},aH ac ah (xs.map SV.int) aC)->C):C:=by
 obtain ⟨d,r,rfl,h1,h2⟩:=hasAllW_cons hs
 cases hasAllW_nil h2
 obtain ⟨xs,rfl⟩:=ints_list h1
 obtain ⟨v,vs,rfl,hv,hr⟩:=wellAll_cons_inv hw
 cases hr
 obtain ⟨b,aC,rfl,hg,hi⟩:=KZ hv
 exact k xs _ _ rfl rfl ⟨_,hg,rfl,0,rfl⟩ (Db hi)
theorem GG {w:World}{s₀ s:Shared}{mg mb:Str->Option Value}(G:Ground q1 pS [] (λu8 u8=>True) w s₀ mg mb s.heap)(Y:YL w s.heap){xs:List Int}{aC:List Value}{b:Addr}(hx:xs.length<=63)(hl:s.heap.IsList b aC.toArray)(hv:∀{ac ah},aH ac ah (xs.map SV.int) aC){Q E:Value->Shared->Prop}
  (q:∀s',(∀b o,s.heap.get? b=some o->s'.heap.get? b=some o)->s'.gens=s.gens->s'.os=s.os->Q (.bool true) s'):aG (model qP w) callerA (PySem.call (.ref (S0.oG 101)) [.ref b]) Q E s:=by
 have XK:(KF w.params).In s.heap:=λb o e=>Y b o (Ou w b o e)
 obtain ⟨H',e⟩:=Es (xs:=xs.take 7) (List.length_take_le ..) 0
 have hle:(xs.map SV.int).length<=big:=by
  rw [bI]
  exact cy hx (by decide)
 have e7:(xs.map SV.int).take 7=iL (xs.take 7):=List.map_take.symm
 exact Dz (c:=c1 w s₀ s mg mb) (X:=X0) (f:=101) (N:=38) (vs:=xs.map SV.int) (KU w) ⟨rfl,λu8 u8 e=>e,trivial⟩ XK G.T XK G.T.nolimit (RJ w) ⟨rfl,rfl,rfl⟩ (Mo w) hl hv hle (e7▸Hp (xs:=xs.take 7) (List.length_take_le ..) _) (e7▸e) q
theorem Lb {xs:List Int}(h:(OpenLaw.row PySem.Challenge.rw_no0425_01).toRowW.claim.pre [.list (xs.map .int)]=true):xs.length<=63:=by
 have h2:=(jb h).2
 have h3:WTm.holds [] (.and (.not (.lt (.lit (.int 63)) (.len (.arg 0)))) (.lit (.bool true))) {args:= [.list (xs.map .int)]}=true:=h2
 simp [WTm.holds,WTm.value,W.less?,Num.less?] at h3
 by_cases q:(63:Int)<xs.length
 ·rw [bf q] at h3
  cases h3
 ·lia
noncomputable abbrev gx:OpenRow:=OpenLaw.row PySem.Challenge.rw_no0425_01
theorem JV {args:List WData}:gx.toRowW.claim.post args (.bool true) args=true:=by
 have h1:WShape.has [] (.bool true) .bool=true:=by decide+kernel
 have h:WTm.value [] (.eq .res (.lit (.bool true))) {args:=args,res:=some (.bool true),after:=args}=some (.bool (W.same (.bool true) (.bool true))):=by simp [WTm.value]
 exact postW_of (r:=gx.toRowW) h1 h (by decide+kernel)
theorem zW {prog:Program}{w:World}{t:Sem Fin}{s:Shared}{P:Shared->Prop}(Md:s.asleep)
  (h:aG (model prog w) callerA t (λeR s' =>eR= .done (.ret (.bool true))/\s'.gens= #[]/\P s') (λu8 u8=>False) s) {C:Prop}
  (k:∀n s' nU,runN (denote table) prog w n s ⟨t, .builtin "claim.caller" {},default, []⟩= .halted (.done (.ret (.bool true))) s'->schedN (denote table) prog w n (.single s ⟨t, .builtin "claim.caller" {},default, []⟩)= .halted (.done (.ret (.bool true))) s'->s'.forget=nU.forget->P nU->C):C:=by
 refine St (x8 (R:=λr s' =>r= .ok (.ret (.bool true))/\P s') Md (gA h (λeR s' q=>⟨_,q.1,⟨rfl,q.2.2⟩,leftWithCleanup_false_of_bare (AllBare.of_eq q.2.1)⟩) λu8 u8 q=>q.elim)) λn r a b h1 h2 h3 h4=> ?_
 obtain ⟨rfl,h4⟩:=h4
 exact k n a b h1 h2 h3 h4
theorem Dk {w:World}{s:Shared}{mg mb:Str->Option Value}(G:Ground q1 pS [] (λu8 u8=>True) w s mg mb s.heap)(Y:YL w s.heap)(hz:s.asleep)(hg:s.gens= #[]){free:Addr->Prop}{gens:Prop}{aU:Heap->Prop}(P6:∀h,aU h):
  gx.toRowW.claim.CallFrom (callStub gx.name) w free gens aU s:=by
 intro args Qk TQ ord OS
 have hs:=(pre_splitW Qk).1
 obtain ⟨⟨vs,s₁⟩,xF⟩:=Option.isSome_iff_exists.mp (layAllW_isSome (P:=w.params) (ord:=ord) G.has args _ s hs)
 have keeps:=layAllW_keeps _ _ _ xF
 have Rl:=layAllW_rest _ _ _ xF
 have wl:WellAll w.params s₁.heap vs args:=well_layAllW OS args s _ xF _ λu8 u8 e=>e
 have G₁:=G.keeps (λu8 u8 u8 u8 u8=>trivial) keeps
 have Y₁:YL w s₁.heap:=λb o e=>keeps _ _ (Y b o e)
 refine F3 hs wl λxs aC b e1 e2 hl hv=> ?_
 subst e1 e2
 have ha:=mg_of (λb o e=>Y₁ b o (Ou w b o e)) G₁.T.g ((KU w).T7 _ _ LI).1
 refine zW (prog:=gx.prog) (w:=w) (s:=s₁) (t:=do match<-nsGet mainNs gx.name with
   |some f=>do ret (<-PySem.call f [.ref b])
   |none=>unsupported "claim.caller:no-such-global") (P:=λs' =>(∀b o,s₁.heap.get? b=some o->s'.heap.get? b=some o)/\s'.os=s₁.os) (Shared.asleep_of_life Rl.2.2.2 hz)
  (ag (ap (wpAny_nsGet G₁.T.g ?_))) λn s2 s3 R0 Mf Xo hp=> ?_
 ·rw [show mg gx.name=_ from ha]
  exact ag (GG G₁ Y₁ (Lb Qk) hl hv λs' hk XO Ji=>aq ⟨rfl,XO.trans (Rl.1.trans hg),hk,Ji⟩)
 have hf:=Shared.forget_eq Xo
 have hk:∀b o,s₁.heap.get? b=some o->s2.heap.get? b=some o:=λb o e=>hf.1▸hp.1 b o e
 have Ji:s2.os=s₁.os:=hf.2.2.2.1.trans hp.2
 refine mq (reads_layAllW OS _ _ _ xF TQ s2.heap hk) λas VU u8 u8=> ?_
 exact ⟨_,s₁,xF,n,_,s2,Mf, .inl ⟨.bool true,rfl,λu8=>rfl,⟨.bool true,_, [],as, .bool _,VU,JV,λu8=>⟨.nil,λu8 h=>j1 h,λu8 h=>j1 h⟩,λu8 u8=>ident_freeW (r:=gx.toRowW) rfl rfl rfl _ _⟩,λu8 h=>nh h,λb o e u8 u8 u8=> .inl (hk b o e),λu8 h=>j1 h⟩,λu8 i x hx=>(by rw [hg] at hx;simp at hx),P6 _,congrArg _ ((runN_life _ _ _ R0).trans Rl.2.2.2),Shared.rest_eq (Ji.trans Rl.2.2.1)⟩
theorem Qr:gx.prog.bare:=⟨rfl,rfl,rfl,rfl,rfl,by decide+kernel⟩
theorem MF:opensWell gx.prog=true:=by decide+kernel
theorem PS:gx.toRowW.promised:=⟨[.list []],by decide+kernel,by decide+kernel⟩
theorem Cf (TR:gx.wellSaid=true):gx.Holds:=by
 refine ⟨TR,PS,⟨Qr,MF,rfl⟩,PS.witness,λw=>⟨(KO.behind (XP:=λu8 u8=>True) (λu8 u8=>trivial) AO w).1,λs' Lf=> ?_⟩⟩
 obtain ⟨s₀,hf,VT,s,hT,hz,OO,hg,G,y⟩:=(KO.behind (XP:=λu8 u8=>True) (λu8 u8=>trivial) AO w).2 s' Lf
 refine ⟨s₀,hf,VT,s,hT,λn hn=> ?_,λu8 h=>j1 h,λu8 h=>j1 h,Dk G (λb o h=>y▸h) hz (Array.eq_empty_of_size_eq_zero (beq_iff_eq.mp OO)) λu8 h=>yb h⟩
 obtain rfl:n=gx.name:=eF hn
 exact pinned_of_view hg G TK SG Uh
end
end Mine
open PySem PySem.W PyProof.Rows
set_option maxHeartbeats 8000000 in
theorem PySem.Challenge.cw_no0425_01_holds : PySem.Challenge.rw_no0425_01.Holds := by
 refine holds_law ?_ Mine.Cf
 delta OpenLaw.wellSaid OpenRow.wellSaid OpenRow.partSaid looksOpen
 repeat' with_reducible refine look_both ?_ ?_
 all_goals decide+kernel
