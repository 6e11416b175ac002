import PyProof.Rows.All
import Wide.All
import OpenK.AllK
import Wide.FinOn
import KE.KTryDeep
import KE.KxPercentT
import KE.KDictObj
import KE.KBytesCut
import PyProof.EqAt
import PyProof.EqKinds
import PyProof.NeKinds
import PyProof.PureInt
import PyProof.DictRoads
import KE.BytesMake
import PyProof.ListRange
import PyProof.DictWalks
import PyProof.DictTruth
import PyProof.Rows.SortWalk
import PyProof.Rows.SortStr
import PyProof.TupleOfGen
import PyProof.RangeFor
import PyProof.Rows.GenSrcRange
import KE.KSorted
import KE.LcSums
import KE.KDeep
import KE.KListLetter
import KE.KxMul
import PyProof.EvalArms
import PyProof.DefCall
import KE.KBytesWalk
import Open.Head
import PySem.Challenge.RW_no0425_01
set_option Elab.async false
set_option linter.all false
set_option maxRecDepth 100000
set_option genSizeOf false
set_option genInjectivity false
set_option bootstrap.genMatcherCode false
set_option tactic.hygienic false
namespace Mine
open PySem PySem.W PySem.Calls PyProof.Rows PySem.Spec
noncomputable abbrev aL:= @List.length_append
noncomputable abbrev ar:= @wpAny_bind
noncomputable abbrev aR:= @decide_eq_false
noncomputable abbrev bf:= @decide_eq_true
noncomputable abbrev bI:= @List.length_map
noncomputable abbrev dW:= @List.getElem?_concat_length
noncomputable abbrev cq:= @Option.some.inj
noncomputable abbrev bu:= @wpAny_pure
noncomputable abbrev eF:=λ{α:Type _} {a b:α}=>(List.mem_singleton (a:=a) (b:=b)).mp
noncomputable abbrev gw:=λ{α:Type _} {l:List α} {i:Nat} {a:α}=>(List.getElem?_eq_some_iff (l:=l) (i:=i) (a:=a)).mp
noncomputable abbrev bX:= @List.append_assoc
noncomputable abbrev ch:= @List.append_nil
noncomputable abbrev eG:= @List.getElem?_append_right
noncomputable abbrev iM:= @List.getElem?_append_left
noncomputable abbrev eW:= @List.getElem?_eq_getElem
noncomputable abbrev cH:=λ{α:Type _} {a b:α} {l:List α}=>(List.mem_cons (a:=a) (b:=b) (l:=l)).mp
noncomputable abbrev eS:=λ{α:Type _} [BEq α] [LawfulBEq α] {a b:α}=>(beq_eq_false_iff_ne (a:=a) (b:=b)).mpr
noncomputable abbrev bS:= @Nat.le_refl
noncomputable abbrev cy:= @Nat.le_trans
noncomputable abbrev cW:= @Nat.ne_of_lt
noncomputable abbrev fM:= @Nat.lt_of_le_of_lt
noncomputable abbrev fw:= @Int.natCast_nonneg
noncomputable abbrev dq:= @List.length_cons
noncomputable abbrev dY:= @List.map_cons
noncomputable abbrev eJ:= @List.map_append
noncomputable abbrev fL:= @Heap.get?_push_of_some
noncomputable abbrev db:= @wpAny_of_eq
noncomputable abbrev gQ:= @builtinLookup_eq_fast
noncomputable abbrev gS:= @typeLookup_type
noncomputable abbrev fo:= @wpAny_specialOf
noncomputable abbrev dT:= @typeIs_bytes
noncomputable abbrev gi:=λ{α:Type _} {a:α} {s t:List α}=>(List.mem_append (a:=a) (s:=s) (t:=t)).mp
noncomputable abbrev jF:=λ{x y:Bool}=>(@Bool.and_eq_true_iff x y).mp
noncomputable abbrev hV:= @List.getElem?_map
noncomputable abbrev gD:=λ{α β:Type _} {f:α->β} {l:List α} {b:β}=>(List.mem_map (f:=f) (l:=l) (b:=b)).mp
noncomputable abbrev dR:= @Nat.lt_trans
noncomputable abbrev gU:= @Nat.le_add_right
noncomputable abbrev hZ:= @List.mem_map_of_mem
noncomputable abbrev iV:= @beq_self_eq_true
noncomputable abbrev eT:= @sizeLine_eq
end Mine
namespace Mine
theorem xh {C:Prop}(h:false=true):C:=by cases h
theorem B6 {C:Prop}(h:true=false):C:=by cases h
theorem mZ {α:Type _}{a:α}{C:Prop}(h:none=some a):C:=by cases h
theorem GG {α:Type _}{a:α}{C:Prop}(h:some a=none):C:=by cases h
theorem jZ {α:Type _}{a:α}{C:Prop}(h:a∈ []):C:=by cases h
theorem Zk {α:Type _}{a:α}{r:List α}{C:Prop}(h: []=a::r):C:=by cases h
theorem Y6 {α:Type _}{a:α}{r:List α}{C:Prop}(h:a::r= []):C:=by cases h
theorem OE {n:Nat}{C:Prop}(h:0=n+1):C:=by cases h
theorem UQ {n:Nat}{C:Prop}(h:n+1=0):C:=by cases h
theorem lA {a b c:Nat}(h:a<=b)(k:Nat.ble b c=true):a<=c:=cy h (Nat.le_of_ble_eq_true k)
theorem lB {a b c:Nat}(h:a<b)(k:Nat.ble b c=true):a<c:=Nat.lt_of_lt_of_le h (Nat.le_of_ble_eq_true k)
theorem lC {a b c:Nat}(h:a<=b)(k:Nat.ble (b+1) c=true):a<c:=fM h (Nat.le_of_ble_eq_true k)
theorem lD {a b c:Nat}(h:a<b)(k:Nat.ble b (c+1)=true):a<=c:=Nat.le_of_lt_succ (lB h k)
theorem lE {a b:Nat}(k:Nat.ble a b=true):a<=b:=Nat.le_of_ble_eq_true k
theorem iA {a b c:Int}(h:a<=b)(k:decide (b<=c)=true):a<=c:=Int.le_trans h (of_decide_eq_true k)
theorem iB {a b c:Int}(h:a<b)(k:decide (b<=c)=true):a<c:=Int.lt_of_lt_of_le h (of_decide_eq_true k)
theorem iC {a b c:Int}(h:a<=b)(k:decide (b<c)=true):a<c:=Int.lt_of_le_of_lt h (of_decide_eq_true k)
theorem iD {a b c:Int}(h:a<b)(k:decide (b<=c)=true):a<=c:=Int.le_of_lt (iB h k)
theorem iE {a b:Nat}{c:Int}(h:a<=b)(k:decide ((b:Int)<=c)=true):(a:Int)<=c:=iA (Int.ofNat_le.mpr h) k
theorem iF {a b:Nat}{c:Int}(h:a<b)(k:decide ((b:Int)<=c)=true):(a:Int)<c:=iB (Int.ofNat_lt.mpr h) k
theorem iG {a b:Nat}{c:Int}(h:a<=b)(k:decide ((b:Int)<c)=true):(a:Int)<c:=iC (Int.ofNat_le.mpr h) k
theorem iH {a:Nat}(h:a≠0):(0:Int)<a:=Int.ofNat_lt.mpr (Nat.pos_of_ne_zero h)
theorem iI {a:Nat}(h:a<0){C:Prop}:C:=(Nat.not_lt_zero a h).elim
theorem iJ {a b c:Int}(h:a<=b)(k:decide (c<=a)=true):c<=b:=Int.le_trans (of_decide_eq_true k) h
theorem iK {a b c:Int}(h:a<b)(k:decide (c<=a)=true):c<b:=Int.lt_of_le_of_lt (of_decide_eq_true k) h
theorem Zo {a b c:Int}(h:a<b)(k:decide (c<=a)=true):c<=b:=Int.le_of_lt (iK h k)
theorem iN {a b:Int}(h:a<b):¬a=b:=Int.ne_of_lt h
theorem iO {a b:Int}(h:a<b):¬b=a:=λe=>Int.ne_of_lt h e.symm
theorem iP {a b:Int}(h:a<b):¬b<a:=Int.not_lt.mpr (Int.le_of_lt h)
theorem iQ {a b:Int}(h:a<b):¬b<=a:=Int.not_le.mpr h
theorem iR {a b:Int}(h:a<=b):¬b<a:=Int.not_lt.mpr h
theorem rm {p0 p1 p2:Prop}(h:p0/\p1/\p2){C:Prop}(k:p0->p1->p2->C):C:=k h.1 h.2.1 h.2.2
theorem RJ {p0 p1 p2 p3:Prop}(h:p0/\p1/\p2/\p3){C:Prop}(k:p0->p1->p2->p3->C):C:=k h.1 h.2.1 h.2.2.1 h.2.2.2
theorem Ue {p0 p1 p2 p3 p4:Prop}(h:p0/\p1/\p2/\p3/\p4){C:Prop}(k:p0->p1->p2->p3->p4->C):C:=k h.1 h.2.1 h.2.2.1 h.2.2.2.1 h.2.2.2.2
theorem aZ {α0:Sort _}{p0 p1:α0->Prop}(h:∃x0,p0 x0/\p1 x0){C:Prop}(k:∀x0,p0 x0->p1 x0->C):C:=h.elim λx0 z=>k x0 z.1 z.2
theorem mF {α0:Sort _}{p0 p1 p2:α0->Prop}(h:∃x0,p0 x0/\p1 x0/\p2 x0){C:Prop}(k:∀x0,p0 x0->p1 x0->p2 x0->C):C:=h.elim λx0 z=>k x0 z.1 z.2.1 z.2.2
theorem J6 {α0:Sort _}{p0 p1 p2 p3:α0->Prop}(h:∃x0,p0 x0/\p1 x0/\p2 x0/\p3 x0){C:Prop}(k:∀x0,p0 x0->p1 x0->p2 x0->p3 x0->C):C:=h.elim λx0 z=>k x0 z.1 z.2.1 z.2.2.1 z.2.2.2
theorem zx {α0:Sort _}{α1:Sort _}{p0:α0->α1->Prop}(h:∃x0 x1,p0 x0 x1){C:Prop}(k:∀x0 x1,p0 x0 x1->C):C:=h.elim λx0 h=>(h.elim λx1 z=>k x0 x1 z)
theorem uz {α0:Sort _}{α1:Sort _}{p0 p1:α0->α1->Prop}(h:∃x0 x1,p0 x0 x1/\p1 x0 x1){C:Prop}(k:∀x0 x1,p0 x0 x1->p1 x0 x1->C):C:=h.elim λx0 h=>(h.elim λx1 z=>k x0 x1 z.1 z.2)
theorem jX {α0:Sort _}{α1:Sort _}{p0 p1 p2:α0->α1->Prop}(h:∃x0 x1,p0 x0 x1/\p1 x0 x1/\p2 x0 x1){C:Prop}(k:∀x0 x1,p0 x0 x1->p1 x0 x1->p2 x0 x1->C):C:=h.elim λx0 h=>(h.elim λx1 z=>k x0 x1 z.1 z.2.1 z.2.2)
theorem xM {α0:Sort _}{α1:Sort _}{p0 p1 p2 p3:α0->α1->Prop}(h:∃x0 x1,p0 x0 x1/\p1 x0 x1/\p2 x0 x1/\p3 x0 x1){C:Prop}(k:∀x0 x1,p0 x0 x1->p1 x0 x1->p2 x0 x1->p3 x0 x1->C):C:=h.elim λx0 h=>(h.elim λx1 z=>k x0 x1 z.1 z.2.1 z.2.2.1 z.2.2.2)
theorem Lo {α0:Sort _}{α1:Sort _}{p0 p1 p2 p3 p4:α0->α1->Prop}(h:∃x0 x1,p0 x0 x1/\p1 x0 x1/\p2 x0 x1/\p3 x0 x1/\p4 x0 x1){C:Prop}(k:∀x0 x1,p0 x0 x1->p1 x0 x1->p2 x0 x1->p3 x0 x1->p4 x0 x1->C):C:=h.elim λx0 h=>(h.elim λx1 z=>k x0 x1 z.1 z.2.1 z.2.2.1 z.2.2.2.1 z.2.2.2.2)
theorem Q4 {α0:Sort _}{α1:Sort _}{α2:Sort _}{p0 p1:α0->α1->α2->Prop}(h:∃x0 x1 x2,p0 x0 x1 x2/\p1 x0 x1 x2){C:Prop}(k:∀x0 x1 x2,p0 x0 x1 x2->p1 x0 x1 x2->C):C:=h.elim λx0 h=>(h.elim λx1 h=>(h.elim λx2 z=>k x0 x1 x2 z.1 z.2))
theorem WO {α0:Sort _}{α1:Sort _}{α2:Sort _}{p0 p1 p2:α0->α1->α2->Prop}(h:∃x0 x1 x2,p0 x0 x1 x2/\p1 x0 x1 x2/\p2 x0 x1 x2){C:Prop}(k:∀x0 x1 x2,p0 x0 x1 x2->p1 x0 x1 x2->p2 x0 x1 x2->C):C:=h.elim λx0 h=>(h.elim λx1 h=>(h.elim λx2 z=>k x0 x1 x2 z.1 z.2.1 z.2.2))
theorem HW {α0:Sort _}{α1:Sort _}{α2:Sort _}{p0 p1 p2 p3:α0->α1->α2->Prop}(h:∃x0 x1 x2,p0 x0 x1 x2/\p1 x0 x1 x2/\p2 x0 x1 x2/\p3 x0 x1 x2){C:Prop}(k:∀x0 x1 x2,p0 x0 x1 x2->p1 x0 x1 x2->p2 x0 x1 x2->p3 x0 x1 x2->C):C:=h.elim λx0 h=>(h.elim λx1 h=>(h.elim λx2 z=>k x0 x1 x2 z.1 z.2.1 z.2.2.1 z.2.2.2))
theorem Yo {α0:Sort _}{α1:Sort _}{α2:Sort _}{p0 p1 p2 p3 p4 p5:α0->α1->α2->Prop}(h:∃x0 x1 x2,p0 x0 x1 x2/\p1 x0 x1 x2/\p2 x0 x1 x2/\p3 x0 x1 x2/\p4 x0 x1 x2/\p5 x0 x1 x2){C:Prop}(k:∀x0 x1 x2,p0 x0 x1 x2->p1 x0 x1 x2->p2 x0 x1 x2->p3 x0 x1 x2->p4 x0 x1 x2->p5 x0 x1 x2->C):C:=h.elim λx0 h=>(h.elim λx1 h=>(h.elim λx2 z=>k x0 x1 x2 z.1 z.2.1 z.2.2.1 z.2.2.2.1 z.2.2.2.2.1 z.2.2.2.2.2))
theorem Xk {α0:Sort _}{α1:Sort _}{α2:Sort _}{α3:Sort _}{p0 p1:α0->α1->α2->α3->Prop}(h:∃x0 x1 x2 x3,p0 x0 x1 x2 x3/\p1 x0 x1 x2 x3){C:Prop}(k:∀x0 x1 x2 x3,p0 x0 x1 x2 x3->p1 x0 x1 x2 x3->C):C:=h.elim λx0 h=>(h.elim λx1 h=>(h.elim λx2 h=>(h.elim λx3 z=>k x0 x1 x2 x3 z.1 z.2)))
theorem RP {α0:Sort _}{α1:Sort _}{α2:Sort _}{α3:Sort _}{p0 p1 p2 p3:α0->α1->α2->α3->Prop}(h:∃x0 x1 x2 x3,p0 x0 x1 x2 x3/\p1 x0 x1 x2 x3/\p2 x0 x1 x2 x3/\p3 x0 x1 x2 x3){C:Prop}(k:∀x0 x1 x2 x3,p0 x0 x1 x2 x3->p1 x0 x1 x2 x3->p2 x0 x1 x2 x3->p3 x0 x1 x2 x3->C):C:=h.elim λx0 h=>(h.elim λx1 h=>(h.elim λx2 h=>(h.elim λx3 z=>k x0 x1 x2 x3 z.1 z.2.1 z.2.2.1 z.2.2.2)))
theorem Bg {α0:Sort _}{α1:Sort _}{α2:Sort _}{α3:Sort _}{p0 p1 p2 p3 p4:α0->α1->α2->α3->Prop}(h:∃x0 x1 x2 x3,p0 x0 x1 x2 x3/\p1 x0 x1 x2 x3/\p2 x0 x1 x2 x3/\p3 x0 x1 x2 x3/\p4 x0 x1 x2 x3){C:Prop}(k:∀x0 x1 x2 x3,p0 x0 x1 x2 x3->p1 x0 x1 x2 x3->p2 x0 x1 x2 x3->p3 x0 x1 x2 x3->p4 x0 x1 x2 x3->C):C:=h.elim λx0 h=>(h.elim λx1 h=>(h.elim λx2 h=>(h.elim λx3 z=>k x0 x1 x2 x3 z.1 z.2.1 z.2.2.1 z.2.2.2.1 z.2.2.2.2)))
end Mine
namespace Mine
open PySem
noncomputable abbrev By:=List Int
inductive SV where
 |none|bool (b:Bool)|int (i:Int)|bytes (b:By)|text
 |tuple (vs:List SV)|range (lo hi:Int)|ref (i:Nat)
inductive SO where
 |list (vs:List SV)|aM|cg (es:List (By×SV))|dB (es:List (Int×SV))|cj (b:By)|inst (c:Nat) (fs:List (Nat×SV))
noncomputable abbrev HP:=List SO
noncomputable abbrev cR:=List (Option SV)
inductive wm|add|sub|mul|fdiv|mod|band|bor|shl|shr
 deriving DecidableEq
inductive LZ|eq|ne|lt|le|gt|ge|is|gh|isIn
 deriving DecidableEq
inductive Bi|len|bytes|bytearray|range|list|tuple|sorted|min|sum
 deriving DecidableEq
mutual
inductive SE where
 |none|bool (b:Bool)|int (i:Int)|bytes (b:By)|text
 |loc (i:Nat)
 |attr (e:SE) (a:Nat)
 |sub (e i:SE)
 |slice (e lo hi:SE)
 |bin (op:wm) (a b:SE)
 |neg (a:SE)
 |cmp (op:LZ) (a b:SE)
 |and (es:nG)|or (es:nG)|not (a:SE)
 |ite (c a b:SE)
 |tuple (es:nG)|list (es:nG)|aM
 |fS (f:Nat) (as:nG)|callC (c:Nat) (as:nG)|bG (b:Bi) (as:nG)|eu (e:SE) (m:Nat) (as:nG)
 |Aw (as:nG)|xw (a:SE)|zl (a:SE)
inductive nG where
 |nil|cons (h:SE) (t:nG)
end
inductive ST where
 |name (i:Nat)|attr (e:SE) (a:Nat)|sub (e i:SE)|tup (is:List Nat)
inductive HS where
 |jR|setB (i:Nat) (b:Bool)|inc (i:Nat) (k:Int)|raise (c:Nat)
inductive EK where
 |one (e:SE)|pair (a b:SE)
mutual
inductive SS where
 |bad|pass|cont
 |expr (e:SE)
 |j4 (t:ST) (e:SE)
 |comp (i w:Nat) (k:EK) (t:Option (SE×SE)) (it:SE)
 |lb (i w:Nat) (k:EK) (it:SE)
 |pO (i:Nat) (op:wm) (e:SE)|tF (o:SE) (a:Nat) (op:wm) (e:SE)
 |ret (e:SE)
 |ifs (c:SE) (a b:cA)
 |je (is:List Nat) (it:SE) (b:cA)
 |yo (c:SE) (b:cA)
 |raise (c:Nat) (msg:SE)
 |lH (b:cA) (c:Nat) (h:HS)
 |del (e i:SE)
inductive cA where
 |nil|cons (h:SS) (t:cA)
end
inductive GV where
 |fn (i:Nat)|cls (i:Nat)|bi (b:Bi)|int (i:Int)|bytes (b:By)
structure Fn where
 name:String
 fX:Nat
 dflt:List SV
 n8:Nat
 cells:Bool
 body:cA
inductive dz (α:Type) where
 |ok (a:α) (H:HP)|exc (c:Nat) (H:HP)|bad
noncomputable def dz.bind {α β:Type}:dz α->(α->HP->dz β)->dz β
 | .ok a H,f=>f a H
 | .exc c H,_=> .exc c H
 | .bad,_=> .bad
inductive cQ where
 |next (l:cR) (H:HP)|cont (l:cR) (H:HP)|ret (v:SV) (H:HP)|exc (c:Nat) (l:cR) (H:HP)|jw (c:Nat) (H:HP)|bad
noncomputable def dz.then {α:Type}(o:dz α)(l:cR)(f:α->HP->cQ):cQ:=match o with
 | .ok a H=>f a H
 | .exc c H=> .exc c l H
 | .bad=> .bad
noncomputable def big:Nat:=4096
noncomputable def uA (f:SV->SV->Option Bool):List SV->List SV->Option Bool
 | [], []=>some true
 | [],_::_=>some false
 |_::_, []=>some false
 |x::xs,y::ys=>match f x y,uA f xs ys with
  |some a,some b=>some (a&&b)
  |_,_=>none
noncomputable def ud:Nat->SV->SV->Option Bool
 |0,_,_=>none
 |n+1,a,b=>match a,b with
  | .none, .none=>some true
  | .none, .bytes _=>some false
  | .bytes _, .none=>some false
  | .none, .tuple _=>some false
  | .tuple _, .none=>some false
  | .bool a, .bool b=>some (a==b)
  | .int a, .int b=>some (a==b)
  | .bytes a, .bytes b=>some (a==b)
  | .tuple a, .tuple b=>uA (ud n) a b
  |_,_=>none
noncomputable def BE:Nat:=6
noncomputable def ig:By->By->Bool
 | [], []=>false
 | [],_::_=>true
 |_::_, []=>false
 |x::xs,y::ys=>if x<y then true else if x=y then ig xs ys else false
section
variable {K:Type}[DecidableEq K]
noncomputable def fR (k:K):List (K×SV)->Option SV
 | []=>none
 |p::r=>if p.1=k then some p.2 else fR k r
noncomputable def kZ (k:K)(v:SV):List (K×SV)->List (K×SV)
 | []=> [(k,v)]
 |p::r=>if p.1=k then (p.1,v)::r else p::kZ k v r
noncomputable def qo (k:K):List (K×SV)->List (K×SV)
 | []=> []
 |p::r=>if p.1=k then r else p::qo k r
theorem zQ (k:K)(v:SV)(p:K×SV)(r:List (K×SV)):kZ k v (p::r)=if p.1=k then (p.1,v)::r else p::kZ k v r:=rfl
theorem Aa (k:K)(p:K×SV)(r:List (K×SV)):qo k (p::r)=if p.1=k then r else p::qo k r:=rfl
end
noncomputable def iq (k:SV)(o:SO):Option (Option SV):=match o,k with
 | .aM, .int _=>some none
 | .aM, .bytes _=>some none
 | .cg es, .bytes b=>some (fR b es)
 | .dB es, .int i=>some (fR i es)
 |_,_=>none
noncomputable def ut (k v:SV)(o:SO):Option SO:=match o,k with
 | .aM, .int i=>some (.dB [(i,v)])
 | .aM, .bytes b=>some (.cg [(b,v)])
 | .cg es, .bytes b=>if es.length<big then some (.cg (kZ b v es)) else none
 | .dB es, .int i=>if es.length<big then some (.dB (kZ i v es)) else none
 |_,_=>none
noncomputable def y9 (k:SV)(o:SO):Option SO:=match o,k with
 | .cg es, .bytes b=>if (fR b es).isSome then some (.cg (qo b es)) else none
 |_,_=>none
noncomputable def fQ (a:Nat):List (Nat×SV)->Option SV
 | []=>none
 |p::r=>if p.1=a then some p.2 else fQ a r
noncomputable def kH (a:Nat)(v:SV):List (Nat×SV)->List (Nat×SV)
 | []=> [(a,v)]
 |p::r=>if p.1=a then (p.1,v)::r else p::kH a v r
theorem EA (a:Nat)(p:Nat×SV)(r:List (Nat×SV)):fQ a (p::r)=if p.1=a then some p.2 else fQ a r:=rfl
theorem Ak (a:Nat)(v:SV)(p:Nat×SV)(r:List (Nat×SV)):kH a v (p::r)=if p.1=a then (p.1,v)::r else p::kH a v r:=rfl
noncomputable def cE (op:wm)(a b:SV)(H:HP):dz SV:=match a,b with
 | .int a, .int b=>match op with
  | .add=> .ok (.int (a+b)) H
  | .sub=> .ok (.int (a - b)) H
  | .mul=>if a.natAbs<4294967296 then .ok (.int (a*b)) H else .bad
  | .fdiv=>if 0<b/\b<1000000000 then .ok (.int (a/b)) H else .bad
  | .mod=>if 0<b/\b<1000000000 then .ok (.int (a%b)) H else .bad
  | .band=> .ok (.int (Builtin.bitAnd a b)) H
  | .bor=> .ok (.int (Builtin.bitOr a b)) H
  | .shl=>if 0<=b/\b<=64/\a.natAbs<4294967296 then .ok (.int (a*2^b.toNat)) H else .bad
  | .shr=>if 0<=b/\b<=64 then .ok (.int (a/2^b.toNat)) H else .bad
 | .bytes a, .bytes b=>match op with
  | .add=>if a.length+b.length<=big then .ok (.bytes (a++b)) H else .bad
  |_=> .bad
 | .ref i, .ref j=>match op,H[i]?,H[j]? with
  | .add,some (.list a),some (.list b)=>if a.length+b.length<=big then .ok (.ref H.length) (H++ [.list (a++b)]) else .bad
  |_,_,_=> .bad
 |_,_=> .bad
noncomputable def oX:SV->Bool
 | .none=>true
 |_=>false
noncomputable def bV (op:LZ)(a b:SV)(H:HP):Option Bool:=match op with
 | .is=>match b with
  | .none=>some (oX a)
  |_=>none
 | .gh=>match b with
  | .none=>some (!oX a)
  |_=>none
 | .eq=>match a,b with
  | .ref i, .ref j=>match H[i]?,H[j]? with
   |some (.list x),some (.list y)=>if x.length=y.length then uA (ud BE) x y else some false
   |_,_=>none
  |a,b=>ud BE a b
 | .ne=>match a,b with
  | .ref i, .ref j=>match H[i]?,H[j]? with
   |some (.list x),some (.list y)=>if x.length=y.length then (uA (ud BE) x y).map (!·) else some true
   |_,_=>none
  |a,b=>(ud BE a b).map (!·)
 | .lt=>match a,b with
  | .int a, .int b=>some (decide (a<b))
  | .bytes a, .bytes b=>some (ig a b)
  |_,_=>none
 | .le=>match a,b with
  | .int a, .int b=>some (decide (a<=b))
  |_,_=>none
 | .gt=>match a,b with
  | .int a, .int b=>some (decide (b<a))
  |_,_=>none
 | .ge=>match a,b with
  | .int a, .int b=>some (decide (b<=a))
  | .bytes a, .bytes b=>some (!ig a b)
  |_,_=>none
 | .isIn=>match b with
  | .ref j=>match H[j]? with
   |some o=>(iq a o).map (·.isSome)
   |none=>none
  |_=>none
noncomputable def eO (v:SV)(H:HP):Option Bool:=match v with
 | .bool b=>some b
 | .ref i=>match H[i]? with
  |some (.list vs)=>some (!vs.isEmpty)
  |_=>none
 |_=>none
noncomputable def cw (i:Int)(n:Nat):Nat:=if 0<=i then i.toNat else (i+n).toNat
noncomputable def cP (i:Int)(n:Nat):Bool:=decide (-(n:Int)<=i)&&decide (i<n)
noncomputable def dH (o i:SV)(H:HP):dz SV:=match o,i with
 | .bytes b, .int i=>if cP i b.length then .ok (.int (b.getD (cw i b.length) 0)) H else .bad
 | .tuple vs, .int i=>match cP i vs.length,vs[cw i vs.length]? with
  |true,some v=> .ok v H
  |_,_=> .bad
 | .ref r,i=>match H[r]? with
  |some (.list vs)=>match i with
   | .int i=>match cP i vs.length,vs[cw i vs.length]? with
    |true,some v=> .ok v H
    |_,_=> .bad
   |_=> .bad
  |some o=>match iq i o with
   |some (some v)=> .ok v H
   |_=> .bad
  |none=> .bad
 |_,_=> .bad
noncomputable def lJ {α:Type}(l:List α)(lo hi:SV):Option (List α):=match lo,hi with
 | .none, .int h=>if 0<=h then some (l.take h.toNat) else none
 | .int a, .none=>if 0<=a then some (l.drop a.toNat) else none
 | .int a, .int h=>if 0<=a/\0<=h then some ((l.take h.toNat).drop a.toNat) else none
 |_,_=>none
noncomputable def f6 (o lo hi:SV)(H:HP):dz SV:=match o with
 | .bytes b=>match lJ b lo hi with
  |some c=> .ok (.bytes c) H
  |none=> .bad
 | .tuple vs=>match lo,hi with
  | .int a, .int h=>if 1<=a/\a<=h/\h<=vs.length then .ok (.tuple ((vs.take h.toNat).drop a.toNat)) H else .bad
  |_,_=> .bad
 | .ref r=>match H[r]? with
  |some (.list vs)=>match lJ vs lo hi with
   |some c=> .ok (.ref H.length) (H++ [.list c])
   |none=> .bad
  |_=> .bad
 |_=> .bad
noncomputable def bT:List SV->Option (List Int)
 | []=>some []
 | .int i::r=>match bT r with
  |some l=>some (i::l)
  |none=>none
 |_::_=>none
noncomputable def w9 (x:Int):List Int->List Int
 | []=> [x]
 |y::r=>if x<y then x::y::r else y::w9 x r
noncomputable def jK:List Int->List Int
 | []=> []
 |x::r=>w9 x (jK r)
noncomputable def sN (x:By):List By->List By
 | []=> [x]
 |y::r=>if ig x y then x::y::r else y::sN x r
theorem Fb (x y:Int)(r:List Int):w9 x (y::r)=if x<y then x::y::r else y::w9 x r:=rfl
theorem DL (x y:By)(r:List By):sN x (y::r)=if ig x y then x::y::r else y::sN x r:=rfl
theorem QG (x y:Int)(r q:By):ig (x::r) (y::q)=if x<y then true else if x=y then ig r q else false:=rfl
theorem Fh (i:Int)(r:List SV):bT (.int i::r)=match bT r with
  |some l=>some (i::l)
  |none=>none:=rfl
noncomputable def jv:List By->List By
 | []=> []
 |x::r=>sN x (jv r)
noncomputable def fD (lo hi:Int):List Int:=(List.range (hi - lo).toNat).map λk=>lo+(k:Nat)
noncomputable def lG (l:List Int):Bool:=l.all λi=>decide (0<=i)&&decide (i<256)
noncomputable def yA (b:Bi)(v:SV)(H:HP):dz SV:=match b with
 | .len=>match v with
  | .bytes b=> .ok (.int b.length) H
  | .tuple vs=> .ok (.int vs.length) H
  | .ref r=>match H[r]? with
   |some (.list vs)=> .ok (.int vs.length) H
   |_=> .bad
  |_=> .bad
 | .bytes=>match v with
  | .bytes b=> .ok (.bytes b) H
  | .range lo hi=>if 0<=lo/\hi<=256 then .ok (.bytes (fD lo hi)) H else .bad
  | .ref r=>match H[r]? with
   |some (.cj b)=> .ok (.bytes b) H
   |some (.list vs)=>match bT vs with
    |some l=>if lG l then .ok (.bytes l) H else .bad
    |none=> .bad
   |_=> .bad
  |_=> .bad
 | .bytearray=> .bad
 | .range=>match v with
  | .int n=>if n<=4096/\0<=n then .ok (.range 0 n) H else .bad
  |_=> .bad
 | .list=>match v with
  | .ref r=>match H[r]? with
   |some (.list vs)=> .ok (.ref H.length) (H++ [.list vs])
   |_=> .bad
  | .range lo hi=> .ok (.ref H.length) (H++ [.list ((fD lo hi).map .int)])
  |_=> .bad
 | .tuple=>match v with
  | .ref r=>match H[r]? with
   |some (.list vs)=> .ok (.tuple vs) H
   |_=> .bad
  | .range lo hi=> .ok (.tuple ((fD lo hi).map .int)) H
  |_=> .bad
 | .sorted=>match v with
  | .ref r=>match H[r]? with
   |some (.list vs)=>match bT vs with
    |some l=>if l.length<64 then .ok (.ref H.length) (H++ [.list ((jK l).map .int)]) else .bad
    |none=> .bad
   |some (.cg es)=>if es.length<64 then .ok (.ref H.length) (H++ [.list ((jv (es.map (·.1))).map .bytes)]) else .bad
   |some .aM=> .ok (.ref H.length) (H++ [.list []])
   |_=> .bad
  |_=> .bad
 | .min=> .bad
 | .sum=>match v with
  | .ref r=>match H[r]? with
   |some (.list vs)=>match bT vs with
    |some l=> .ok (.int l.sum) H
    |none=> .bad
   |_=> .bad
  |_=> .bad
noncomputable def yX (b:Bi)(v w:SV)(H:HP):dz SV:=match v,w with
 | .int a, .int n=>match b with
  | .range=>if 0<=a/\a<=n/\n<=4096 then .ok (.range a n) H else .bad
  | .min=> .ok (.int (if n<a then n else a)) H
  |_=> .bad
 |_,_=> .bad
noncomputable def bG (b:Bi)(as:List SV)(H:HP):dz SV:=match as with
 | []=>if b= .bytearray then .ok (.ref H.length) (H++ [.cj []]) else .bad
 | [v]=>yA b v H
 | [v,w]=>yX b v w H
 |_=> .bad
structure MC where
 append:Nat
 extend:Nat
 get:Nat
noncomputable def l6 (i:Int):Bool:=decide (0<=i)&&decide (i<256)
inductive MK where
 |fn (f:Nat)|nf|pz|oV|iW
structure PI where
 fns:List Fn
 field:Nat->Nat->Bool
 mD:Nat->Nat->Option Nat
 init:Nat->Option Nat
 mc:MC
noncomputable abbrev au:=Nat->List SV->HP->dz SV
noncomputable def eC (v:SV)(a:Nat)(H:HP):dz SV:=match v with
 | .ref r=>match H[r]? with
  |some (.inst _ fs)=>match fQ a fs with
   |some v=> .ok v H
   |none=> .bad
  |_=> .bad
 |_=> .bad
noncomputable def d7 (P:PI)(o:SV)(m:Nat)(H:HP):Option MK:=match o with
 | .ref r=>match H[r]? with
  |some (.inst c fs)=>match P.mD c m,fQ m fs with
   |some f,none=>some (.fn f)
   |_,_=>none
  |some (.list _)=>if m=P.mc.append then some .nf else none
  |some (.cj _)=>if m=P.mc.append then some .pz else if m=P.mc.extend then some .oV else none
  |some .aM=>if m=P.mc.get then some .iW else none
  |some (.cg _)=>if m=P.mc.get then some .iW else none
  |some (.dB _)=>if m=P.mc.get then some .iW else none
  |none=>none
 |_=>none
noncomputable def dl (R:au)(k:MK)(o:SV)(as:List SV)(H:HP):dz SV:=match k with
 | .fn f=>R f (o::as) H
 | .nf=>match o,as with
  | .ref r, [v]=>match H[r]? with
   |some (.list vs)=>if vs.length<big then .ok .none (H.set r (.list (vs++ [v]))) else .bad
   |_=> .bad
  |_,_=> .bad
 | .pz=>match o,as with
  | .ref r, [.int i]=>match H[r]? with
   |some (.cj b)=>if l6 i=true/\b.length<big then .ok .none (H.set r (.cj (b++ [i]))) else .bad
   |_=> .bad
  |_,_=> .bad
 | .oV=>match o,as with
  | .ref r, [.bytes c]=>match H[r]? with
   |some (.cj b)=>if b.length+c.length<=big then .ok .none (H.set r (.cj (b++c))) else .bad
   |_=> .bad
  |_,_=> .bad
 | .iW=>match o,as with
  | .ref r, [k]=>match H[r]? with
   |some o=>match iq k o with
    |some x=> .ok (x.getD .none) H
    |none=> .bad
   |none=> .bad
  |_,_=> .bad
noncomputable def lq (P:PI)(R:au)(c:Nat)(as:List SV)(H:HP):dz SV:=match P.init c with
 |some f=>(R f (.ref H.length::as) (H++ [.inst c []])).bind λv H' =>match v with
  | .none=> .ok (.ref H.length) H'
  |_=> .bad
 |none=> .bad
noncomputable def al (l:cR)(i:Nat)(v:SV):cR:=l.set i (some v)
noncomputable def dJ:cR->List Nat->List SV->cR
 |l,i::is,v::vs=>dJ (al l i v) is vs
 |l,_,_=>l
noncomputable def kC (l:cR)(VT:List Nat)(v:SV):Option cR:=match VT,v with
 | [i],v=>some (al l i v)
 |is, .tuple vs=>if is.length=vs.length then some (dJ l is vs) else none
 |_,_=>none
noncomputable def fj {α:Type}(o:Option α)(H:HP):dz α:=match o with
 |some a=> .ok a H
 |none=> .bad
noncomputable def cu (it:SV)(k:Nat)(H:HP):Option (Option SV):=match it with
 | .range lo hi=>some (if lo+(k:Int)<hi then some (.int (lo+k)) else none)
 | .bytes b=>some ((b[k]?).map .int)
 | .ref r=>match H[r]? with
  |some (.list vs)=>some vs[k]?
  |_=>none
 |_=>none
noncomputable def fa (it:SV)(H:HP):Nat:=match it with
 | .range lo hi=>(hi - lo).toNat
 | .bytes b=>b.length
 | .ref r=>match H[r]? with
  |some (.list vs)=>vs.length
  |_=>0
 |_=>0
noncomputable def K9 (l:cR)(cv:List SV)(i:Nat):Option SV:=if i<1000 then (match l[i]? with
 |some (some v)=>some v
 |_=>none) else cv[i - 1000]?
noncomputable def Ii (op:wm)(a b:SV):Option SV:=match a,b with
 | .int x, .int y=>(match op with
  | .mod=>if 0<y/\y<1000000000 then some (.int (x%y)) else none
  |_=>none)
 | .bytes x, .bytes y=>(match op with
  | .add=>if x.length+y.length<=big then some (.bytes (x++y)) else none
  |_=>none)
 |_,_=>none
noncomputable def rj (a b:SV)(H:HP):Option SV:=match dH a b H with
 | .ok v _=>some v
 |_=>none
noncomputable def vK:SE->cR->List SV->HP->Option SV
 | .int i,_,_,_=>some (.int i)
 | .bytes b,_,_,_=>some (.bytes b)
 | .loc i,l,cv,_=>K9 l cv i
 | .sub a b,l,cv,H=>(vK a l cv H).bind λx=>(vK b l cv H).bind λy=>rj x y H
 | .bin op a b,l,cv,H=>(vK a l cv H).bind λx=>(vK b l cv H).bind λy=>Ii op x y
 |_,_,_,_=>none
noncomputable def Lr (k:EK)(l:cR)(cv:List SV)(H:HP):Option SV:=match k with
 | .one e=>vK e l cv H
 | .pair a b=>(vK a l cv H).bind λx=>(vK b l cv H).bind λy=>some (.tuple [x,y])
noncomputable def o0 (t:Option (SE×SE))(l:cR)(cv:List SV)(H:HP):Option Bool:=match t with
 |none=>some true
 |some (a,b)=>(vK a l cv H).bind λx=>(vK b l cv H).bind λy=>bV .eq x y H
noncomputable def pb (w:Nat)(v:SV):Option (List SV):=if w=1 then some [v] else match v with
 | .tuple vs=>if vs.length=w then some vs else none
 |_=>none
noncomputable def gH (w:Nat)(k:EK)(t:Option (SE×SE))(v:SV)(l:cR)(H:HP):Nat->Nat->Option (List SV)
 |0,_=>none
 |n+1,j=>match cu v j H with
  |none=>none
  |some none=>some []
  |some (some y)=>(pb w y).bind λcv=>(o0 t l cv H).bind λb=>match b with
   |false=>gH w k t v l H n (j+1)
   |true=>(Lr k l cv H).bind λx=>(gH w k t v l H n (j+1)).map (x:: ·)
theorem EX (w:Nat)(k:EK)(t:Option (SE×SE))(v:SV)(l:cR)(H:HP)(n j:Nat):gH w k t v l H (n+1) j=match cu v j H with
  |none=>none
  |some none=>some []
  |some (some y)=>(pb w y).bind λcv=>(o0 t l cv H).bind λb=>match b with
   |false=>gH w k t v l H n (j+1)
   |true=>(Lr k l cv H).bind λx=>(gH w k t v l H n (j+1)).map (x:: ·):=rfl
noncomputable def kE:SV->Bool
 | .bytes _=>true
 |_=>false
noncomputable def gm (w:Nat)(k:EK)(t:Option (SE×SE))(v:SV)(l:cR)(H:HP):Option (List SV):=
 if kE v then none else (gH w k t v l H (fa v H+1) 0).bind λvs=>if vs.length<=big then some vs else none
noncomputable def dK:List SV->Bool
 | []=>true
 | .int i::r=>decide (0<=i)&&decide (i<100000)&&dK r
 |_::_=>false
section
variable (P:PI)(R:au)
mutual
noncomputable def bj:SE->cR->HP->dz SV
 | .none,_,H=> .ok .none H
 | .bool b,_,H=> .ok (.bool b) H
 | .int i,_,H=> .ok (.int i) H
 | .bytes b,_,H=> .ok (.bytes b) H
 | .text,_,H=> .ok .text H
 | .loc i,l,H=>match l[i]? with
  |some (some v)=> .ok v H
  |_=> .bad
 | .attr e a,l,H=>(bj e l H).bind λv H=>eC v a H
 | .sub e i,l,H=>(bj e l H).bind λv H=>(bj i l H).bind λk H=>dH v k H
 | .slice e lo hi,l,H=>(bj e l H).bind λv H=>(bj lo l H).bind λa H=>(bj hi l H).bind λb H=>f6 v a b H
 | .bin op a b,l,H=>(bj a l H).bind λx H=>(bj b l H).bind λy H=>cE op x y H
 | .neg a,l,H=>(bj a l H).bind λx H=>match x with
  | .int i=> .ok (.int (-i)) H
  |_=> .bad
 | .cmp op a b,l,H=>(bj a l H).bind λx H=>(bj b l H).bind λy H=>(fj (bV op x y H) H).bind λr H=> .ok (.bool r) H
 | .and es,l,H=>GQ es l H
 | .or es,l,H=>LI es l H
 | .not _,_,_=> .bad
 | .ite c a b,l,H=>(gK c l H).bind λt H=>match t with
  |true=>bj a l H
  |false=>bj b l H
 | .tuple es,l,H=>(dM es l H).bind λvs H=> .ok (.tuple vs) H
 | .list es,l,H=>(dM es l H).bind λvs H=> .ok (.ref H.length) (H++ [.list vs])
 | .aM,_,H=> .ok (.ref H.length) (H++ [.aM])
 | .fS f as,l,H=>(dM as l H).bind λvs H=>R f vs H
 | .callC c as,l,H=>(dM as l H).bind λvs H=>lq P R c vs H
 | .bG b as,l,H=>(dM as l H).bind λvs H=>bG b vs H
 | .eu o m as,l,H=>(bj o l H).bind λv H=>(fj (d7 P v m H) H).bind λk H=>(dM as l H).bind λvs H=>dl R k v vs H
 | .Aw as,l,H=>(dM as l H).bind λvs H=>if dK vs then .ok .text H else .bad
 | .xw a,l,H=>(bj a l H).bind λv H=>if dK [v] then .ok .text H else .bad
 | .zl a,l,H=>(bj a l H).bind λv H=>if dK [v] then .ok .text H else .bad
noncomputable def gK:SE->cR->HP->dz Bool
 | .not a,l,H=>(gK a l H).bind λb H=> .ok (!b) H
 | .and es,l,H=>pc es l H
 | .or es,l,H=>q8 es l H
 | .cmp op a b,l,H=>(bj a l H).bind λx H=>(bj b l H).bind λy H=>fj (bV op x y H) H
 | .bool b,_,H=> .ok b H
 | .loc i,l,H=>match l[i]? with
  |some (some v)=>fj (eO v H) H
  |_=> .bad
 | .attr e a,l,H=>((bj e l H).bind λv H=>eC v a H).bind λv H=>fj (eO v H) H
 | .fS f as,l,H=>((dM as l H).bind λvs H=>R f vs H).bind λv H=>fj (eO v H) H
 | .eu o m as,l,H=>((bj o l H).bind λv H=>(fj (d7 P v m H) H).bind λk H=>(dM as l H).bind λvs H=>dl R k v vs H).bind λv H=>fj (eO v H) H
 |_,_,_=> .bad
noncomputable def GQ:nG->cR->HP->dz SV
 | .nil,_,_=> .bad
 | .cons e r,l,H=>match r with
  | .nil=>bj e l H
  | .cons _ _=>(bj e l H).bind λx H=>(fj (eO x H) H).bind λt H=>match t with
   |true=>GQ r l H
   |false=> .ok x H
noncomputable def LI:nG->cR->HP->dz SV
 | .nil,_,_=> .bad
 | .cons e r,l,H=>match r with
  | .nil=>bj e l H
  | .cons _ _=>(bj e l H).bind λx H=>(fj (eO x H) H).bind λt H=>match t with
   |true=> .ok x H
   |false=>LI r l H
noncomputable def pc:nG->cR->HP->dz Bool
 | .nil,_,H=> .ok true H
 | .cons e r,l,H=>(gK e l H).bind λt H=>match t with
  |true=>pc r l H
  |false=> .ok false H
noncomputable def q8:nG->cR->HP->dz Bool
 | .nil,_,H=> .ok false H
 | .cons e r,l,H=>(gK e l H).bind λt H=>match t with
  |true=> .ok true H
  |false=>q8 r l H
noncomputable def dM:nG->cR->HP->dz (List SV)
 | .nil,_,H=> .ok [] H
 | .cons e r,l,H=>(bj e l H).bind λv H=>(dM r l H).bind λvs H=> .ok (v::vs) H
end
noncomputable def bD (P:PI)(o:SV)(a:Nat)(v:SV)(H:HP):Option HP:=match o with
 | .ref r=>match H[r]? with
  |some (.inst c fs)=>if P.field c a=true/\fs.length<100 then some (H.set r (.inst c (kH a v fs))) else none
  |_=>none
 |_=>none
noncomputable def jO (o k v:SV)(H:HP):Option HP:=match o with
 | .ref r=>match H[r]? with
  |some d=>match ut k v d with
   |some d=>some (H.set r d)
   |none=>none
  |none=>none
 |_=>none
noncomputable def iw (o k:SV)(H:HP):Option HP:=match o with
 | .ref r=>match H[r]? with
  |some d=>match y9 k d with
   |some d=>some (H.set r d)
   |none=>none
  |none=>none
 |_=>none
noncomputable def Bq:ST->SV->cR->HP->cQ
 | .name i,v,l,H=> .next (al l i v) H
 | .tup is,v,l,H=>match v with
  | .tuple vs=>if is.length=vs.length then .next (dJ l is vs) H else .bad
  |_=> .bad
 | .attr e a,v,l,H=>(bj P R e l H).then l λo H=>match bD P o a v H with
  |some H=> .next l H
  |none=> .bad
 | .sub e i,v,l,H=>(bj P R e l H).then l λo H=>(bj P R i l H).then l λk H=>match jO o k v H with
  |some H=> .next l H
  |none=> .bad
noncomputable def forLoop (is:List Nat)(body:cR->HP->cQ)(it:SV):Nat->Nat->cR->HP->cQ
 |0,_,_,_=> .bad
 |n+1,k,l,H=>match cu it k H with
  |none=> .bad
  |some none=> .next l H
  |some (some v)=>match kC l is v with
   |some l=>match body l H with
    | .next l H=>forLoop is body it n (k+1) l H
    | .cont l H=>forLoop is body it n (k+1) l H
    | .ret v H=> .ret v H
    |_=> .bad
   |none=> .bad
theorem gu (is:List Nat)(body:cR->HP->cQ)(it:SV)(n k:Nat)(l:cR)(H:HP):forLoop is body it (n+1) k l H=match cu it k H with
  |none=> .bad
  |some none=> .next l H
  |some (some v)=>match kC l is v with
   |some l=>match body l H with
    | .next l H=>forLoop is body it n (k+1) l H
    | .cont l H=>forLoop is body it n (k+1) l H
    | .ret v H=> .ret v H
    |_=> .bad
   |none=> .bad:=rfl
noncomputable def whileLoop (test:cR->HP->dz Bool)(body:cR->HP->cQ):Nat->cR->HP->cQ
 |0,_,_=> .bad
 |n+1,l,H=>match test l H with
  | .ok false H=> .next l H
  | .ok true H=>match body l H with
   | .next l H=>whileLoop test body n l H
   |_=> .bad
  |_=> .bad
theorem yS (test:cR->HP->dz Bool)(body:cR->HP->cQ)(n:Nat)(l:cR)(H:HP):whileLoop test body (n+1) l H=match test l H with
  | .ok false H=> .next l H
  | .ok true H=>match body l H with
   | .next l H=>whileLoop test body n l H
   |_=> .bad
  |_=> .bad:=rfl
noncomputable def KX:HS->cR->HP->cQ
 | .jR,_,H=> .ret .none H
 | .setB i b,l,H=> .next (al l i (.bool b)) H
 | .inc i k,l,H=>match l[i]? with
  |some (some (.int a))=> .next (al l i (.int (a+k))) H
  |_=> .bad
 | .raise c,_,H=> .jw c H
mutual
noncomputable def gJ:SS->cR->HP->cQ
 | .bad,_,_=> .bad
 | .pass,l,H=> .next l H
 | .cont,l,H=> .cont l H
 | .expr e,l,H=>(bj P R e l H).then l λv H=>match v with
  | .none=> .next l H
  | .int _=> .next l H
  | .bytes _=> .next l H
  |_=> .bad
 | .j4 t e,l,H=>(bj P R e l H).then l λv H=>Bq P R t v l H
 | .comp i w k t it,l,H=>(bj P R it l H).then l λv H=>match gm w k t v l H with
  |some vs=> .next (al l i (.ref H.length)) (H++ [.list vs])
  |none=> .bad
 | .lb i w k it,l,H=>match l[i]? with
  |some (some (.ref r))=>(bj P R it l H).then l λv H=>match gm w k none v l H with
   |some vs=>(match H[r]? with
    |some (.list cx)=>if cx.length+vs.length<=big then .next (al l i (.ref (H.length+1))) ((H++ [.list vs])++ [.list (cx++vs)]) else .bad
    |_=> .bad)
   |none=> .bad
  |_=> .bad
 | .pO i op e,l,H=>match l[i]? with
  |some (some (.int a))=>(bj P R e l H).then l λv H=>match v with
   | .int b=>(cE op (.int a) (.int b) H).then l λv H=> .next (al l i v) H
   |_=> .bad
  |_=> .bad
 | .tF o a op e,l,H=>(bj P R o l H).then l λov H=>(eC ov a H).then l λx H=>(bj P R e l H).then l λy H=>match x,y with
  | .int i, .int j=>(cE op (.int i) (.int j) H).then l λv H=>match bD P ov a v H with
   |some H=> .next l H
   |none=> .bad
  |_,_=> .bad
 | .ret e,l,H=>(bj P R e l H).then l λv H=> .ret v H
 | .ifs c a b,l,H=>(gK P R c l H).then l λt H=>match t with
  |true=>aK a l H
  |false=>aK b l H
 | .je is it b,l,H=>(bj P R it l H).then l λv H=>forLoop is (λl H=>aK b l H) v (fa v H+1) 0 l H
 | .yo c b,l,H=>whileLoop (λl H=>gK P R c l H) (λl H=>aK b l H) 64 l H
 | .raise c m,l,H=>(bj P R m l H).then l λv H=>match v with
  | .text=> .jw c H
  |_=> .bad
 | .lH b c h,l,H=>match aK b l H with
  | .exc c' l H=>if c' =c then KX h l H else .bad
  | .jw _ _=> .bad
  |o=>o
 | .del e i,l,H=>(bj P R e l H).then l λo H=>(bj P R i l H).then l λk H=>match iw o k H with
  |some H=> .next l H
  |none=> .bad
noncomputable def aK:cA->cR->HP->cQ
 | .nil,l,H=> .next l H
 | .cons s r,l,H=>match gJ s l H with
  | .next l H=>aK r l H
  |o=>o
end
end
noncomputable def uF (fi:Fn)(as:List SV):Option (List SV):=if as.length+fi.dflt.length=fi.fX then some (as++fi.dflt) else none
noncomputable def run (P:PI):Nat->au
 |0,_,_,_=> .bad
 |d+1,f,as,H=>match P.fns[f]? with
  |some fi=>match uF fi as with
   |some as=>match aK P (run P d) fi.body (as.map some++List.replicate (fi.n8 - fi.fX) none) H with
    | .next _ H=> .ok .none H
    | .ret v H=> .ok v H
    | .exc c _ H=>if fi.cells then .bad else .exc c H
    | .jw c H=>if fi.cells then .bad else .exc c H
    |_=> .bad
   |none=> .bad
  |none=> .bad
end Mine
namespace Mine
open PySem PySem.W PySem.Calls PyProof.Rows PySem.Spec
theorem cps {P:Prop}(h:∀G:Prop,(P->G)->G):P:=h P id
noncomputable abbrev ao:=List (Addr×Obj)
noncomputable abbrev dN:=List (Nat×Nat)
noncomputable abbrev jG (aC:List Value):Obj:={cls:= .type "tuple",data:= .seq aC.toArray}
noncomputable abbrev eP (b:Array UInt8):Obj:={cls:= .type "bytearray",data:= .bytearray b 0}
noncomputable abbrev zv (a b:Int)(t u v:Tok):Obj:={cls:= .type "range",data:= .fields #[.int a t, .int b u, .int 1 v]}
mutual
inductive av (ac:ao)(ah:dN):SV->Value->Prop
 |none:av ac ah .none .none
 |bool (b:Bool):av ac ah (.bool b) (.bool b)
 |int (i:Int) (t:Tok):av ac ah (.int i) (.int i t)
 |bytes {b:By} (dm:Array UInt8) (t:Tok):KBw.bInts dm=b->b.length<=big->av ac ah (.bytes b) (.bytes dm t)
 |text (x:Str) (t:Tok):av ac ah .text (.str x t)
 |tuple {vs:List SV} {aC:List Value} {a:Addr}:(a,jG aC)∈ac->aI ac ah vs aC->vs.length<=big->av ac ah (.tuple vs) (.ref a)
 |range {lo hi:Int} {a:Addr} {t u v:Tok}:(a,zv lo hi t u v)∈ac->0<=lo->lo<=hi->hi<=big->av ac ah (.range lo hi) (.ref a)
 |ref {i:Nat} {p:Nat×Nat}:ah[i]? =some p->av ac ah (.ref i) (.ref p.1)
inductive aI (ac:ao)(ah:dN):List SV->List Value->Prop
 |nil:aI ac ah [] []
 |cons {v:SV} {r:Value} {vs:List SV} {rs:List Value}:av ac ah v r->aI ac ah vs rs->aI ac ah (v::vs) (r::rs)
end
theorem fh {α:Type}{r:α}{P:Prop}(e:none=some r):P:=mZ e
noncomputable def VV (ac:ao)(ah:dN)(r:Value):SV->Prop
 | .none=>r= .none
 | .bool b=>r= .bool b
 | .int i=>∃u,r= .int i u
 | .bytes b=>∃dm t,r= .bytes dm t/\b=KBw.bInts dm/\b.length<=big
 | .text=>∃x t,r= .str x t
 | .tuple vs=>∃aC a,r= .ref a/\(a,jG aC)∈ac/\aI ac ah vs aC/\vs.length<=big
 | .range lo hi=>∃a t u v,r= .ref a/\(a,zv lo hi t u v)∈ac/\0<=lo/\lo<=hi/\hi<=big
 | .ref i=>∃p,r= .ref p.1/\ah[i]? =some p
theorem vv (h:av ac ah v r):VV ac ah r v:=by
 cases h with
 |none=>rfl
 |bool _=>rfl
 |int _ _=>exact ⟨_,rfl⟩
 |bytes dm t h1 h2=>exact ⟨dm,t,rfl,h1.symm,h2⟩
 |text _ _=>exact ⟨_,_,rfl⟩
 |tuple h1 h2 h3=>exact ⟨_,_,rfl,h1,h2,h3⟩
 |range h1 h2 h3 h4=>exact ⟨_,_,_,_,rfl,h1,h2,h3,h4⟩
 |ref h1=>exact ⟨_,rfl,h1⟩
section
variable {ac:ao}{ah:dN}{r:Value}{v:SV}
theorem dX (h:av ac ah .none r):r= .none:=vv h
theorem kD (h:av ac ah (.bool b) r):r= .bool b:=vv h
theorem aQ (h:av ac ah (.int i) r):∃u,r= .int i u:=vv h
theorem bh (h:av ac ah (.bytes b) r):∃dm t,r= .bytes dm t/\b=KBw.bInts dm/\b.length<=big:=vv h
theorem Nk (h:av ac ah .text r):∃x t,r= .str x t:=vv h
theorem cT (h:av ac ah (.tuple vs) r):∃aC a,r= .ref a/\(a,jG aC)∈ac/\aI ac ah vs aC/\vs.length<=big:=vv h
theorem oj {lo hi:Int}(h:av ac ah (.range lo hi) r):∃a t u v,r= .ref a/\(a,zv lo hi t u v)∈ac/\0<=lo/\lo<=hi/\hi<=big:=vv h
theorem cK (e:v= .ref i)(h:av ac ah v r):∃p,r= .ref p.1/\ah[i]? =some p:=by subst e;exact vv h
end
noncomputable def dV (o:Obj):Bool:=match o.data with
 | .cell _=>false
 |_=>(match o.cls with
  | .type n=>n== "tuple"||n== "range"
  |_=>false)
theorem Dw (h:o.data= .cell v):dV o=false:=by unfold dV;rw [h]
noncomputable def fA (o:Obj):Bool:=match o.data with
 | .cell _=>true
 | .fields _=>(match o.cls with
  | .type n=>n== "list_iterator"||n== "range_iterator"||n== "bytes_iterator"
  |_=>false)
 |_=>false
structure br (X:List Addr)(ac:ao)(ah:dN)(az:ao)(bM:dN):Prop where
 ah:∃more,bM=ah++more
 sP:∀p∈ac,dV p.2=true->p∈az
 cell:∀p∈ac,fA p.2=true->p.1∉X->p∈az
theorem br.refl {X:List Addr}{ac:ao}{ah:dN}:br X ac ah ac ah:=⟨⟨[],(ch _).symm⟩,λu8 h u8=>h,λu8 h u8 u8=>h⟩
theorem br.trans {X:List Addr}(x:br X n1 l1 n2 l2)(y:br X n2 l2 n3 l3):br X n1 l1 n3 l3:=by
 obtain ⟨⟨m1,e1⟩,s1,c1⟩:=x
 obtain ⟨⟨m2,e2⟩,s2,c2⟩:=y
 exact ⟨⟨m1++m2,by rw [e2,e1,bX]⟩,λp h q=>s2 p (s1 p h q) q,λp h q z=>c2 p (c1 p h q z) q z⟩
theorem br.wide {X:List Addr}(x:br [] n1 l1 n2 l2):br X n1 l1 n2 l2:=⟨x.ah,x.sP,λp h q u8=>x.cell p h q (by simp)⟩
theorem br.at {X:List Addr}{n1 n2:ao}{l1 l2:dN}(x:br X n1 l1 n2 l2){i:Nat}{p:Nat×Nat}(h:l1[i]? =some p):l2[i]? =some p:=by
 obtain ⟨⟨m,e⟩,_⟩:=x
 rw [e,iM (gw h).1];exact h
theorem br.cons {X:List Addr}{ac:ao}{ah:dN}(p:Addr×Obj):br X ac ah (p::ac) ah:=⟨⟨[],(ch _).symm⟩,λu8 h u8=> .tail _ h,λu8 h u8 u8=> .tail _ h⟩
theorem br.app {X:List Addr}{ac:ao}{ah:dN}(p:Addr×Obj)(q:Nat×Nat):br X ac ah (p::ac) (ah++ [q]):=⟨⟨[q],rfl⟩,λu8 h u8=> .tail _ h,λu8 h u8 u8=> .tail _ h⟩
theorem av.ext {X:List Addr}{n1 n2:ao}{l1 l2:dN}(x:br X n1 l1 n2 l2){v:SV}{r:Value}(h:av n1 l1 v r):av n2 l2 v r:=
 av.rec (motive_1:=λv r u8=>av n2 l2 v r) (motive_2:=λvs rs u8=>aI n2 l2 vs rs) .none .bool .int .bytes .text (λhm u8 hl hs=> .tuple (x.sP _ hm rfl) hs hl) (λhm h1 h2 h3=> .range (x.sP _ hm rfl) h1 h2 h3) (λh=> .ref (x.at h)) .nil (λu8 u8 h t=> .cons h t) h
section
variable {n:ao}{l:dN}{vs:List SV}{rs:List Value}
theorem aI.ind {C:List SV->List Value->Prop}(h:aI n l vs rs)(nil:C [] [])(cons:∀{v r vs rs},av n l v r->aI n l vs rs->C vs rs->C (v::vs) (r::rs)):C vs rs:=
 aI.rec (motive_1:=λu8 u8 u8=>True) (motive_2:=λvs rs u8=>C vs rs) trivial (λu8=>trivial) (λu8 u8=>trivial) (λu8 u8 u8 u8=>trivial) (λu8 u8=>trivial) (λu8 u8 u8 u8=>trivial) (λu8 u8 u8 u8=>trivial) (λu8=>trivial) nil (λh t u8 i=>cons h t i) h
theorem aI.ext {X:List Addr}(x:br X n l n2 l2)(h:aI n l vs rs):aI n2 l2 vs rs:=h.ind .nil λh u8 t=> .cons (h.ext x) t
theorem aI.length (h:aI n l vs rs):vs.length=rs.length:=h.ind (C:=λvs rs=>vs.length=rs.length) rfl λu8 u8 t=>congrArg (·+1) t
theorem aI.append {ts:List Value}(h:aI n l vs rs)(h2:aI n l ws ts):aI n l (vs++ws) (rs++ts):=h.ind (C:=λvs rs=>aI n l (vs++ws) (rs++ts)) h2 λh u8 t=> .cons h t
theorem aI.at {i:Nat}{v:SV}(h:aI n l vs rs):vs[i]? =some v->∃r,rs[i]? =some r/\av n l v r:=
 h.ind (C:=λvs rs=>∀i,vs[i]? =some v->∃r,rs[i]? =some r/\av n l v r) (λi e=>fh e) (λ{v' r _ _} h _ t i e=>by
  cases i with
  |zero=>exact ⟨r,rfl,cq e▸h⟩
  |succ i=>exact t i e) i
theorem aI.take (k:Nat)(h:aI n l vs rs):aI n l (vs.take k) (rs.take k):=
 h.ind (C:=λvs rs=>∀k,aI n l (vs.take k) (rs.take k)) (λk=>by rw [List.take_nil,List.take_nil];exact .nil) (λh u8 t k=>by
  cases k with
  |zero=>exact .nil
  |succ k=>exact .cons h (t k)) k
theorem aI.drop (k:Nat)(h:aI n l vs rs):aI n l (vs.drop k) (rs.drop k):=
 h.ind (C:=λvs rs=>∀k,aI n l (vs.drop k) (rs.drop k)) (λk=>by rw [List.drop_nil,List.drop_nil];exact .nil) (λh ht t k=>by
  cases k with
  |zero=>exact .cons h ht
  |succ k=>exact t k) k
theorem w8 {P:Prop}(e:bT (v::vs)=some is)(k:∀i l,v= .int i->bT vs=some l->is=i::l->P):P:=by
 cases v with
 |int i=>
  change (match bT vs with|some l=>some (i::l)|none=>none)=some is at e
  cases h:bT vs with
  |none=>rw [h] at e;exact fh e
  |some l=>rw [h] at e;exact k i l rfl h (cq e).symm
 |_=>exact fh e
theorem aI.ints (h:aI n l vs rs):bT vs=some is->IntsAre rs is:=
 h.ind (C:=λvs rs=>∀is,bT vs=some is->IntsAre rs is) (λis e=>cq e▸ .nil) (λh u8 t is e=>w8 e λi l hv hl Nd=>by
  subst hv Nd
  obtain ⟨u,rfl⟩:=aQ h
  exact .cons _ _ (t _ hl)) is
end
structure ls where
 attr:Nat->Str
 dD:Nat->Addr
 oD:Nat->Addr
 fld:Nat->Nat->Bool
 glob:List (Str×GV)
 HQ:Nat->Bool
inductive i6 (S:ls)(W:Params)(ac:ao)(ah:dN):List (Nat×SV)->List DictEntry->Prop
 |nil:i6 S W ac ah [] []
 |cons {a:Nat} {v:SV} {r:Value} {t:Tok} {fs:List (Nat×SV)} {es:List DictEntry}:av ac ah v r->i6 S W ac ah fs es->
   i6 S W ac ah ((a,v)::fs) (⟨PyData.keyHash W (S.attr a), .str (S.attr a) t,r⟩::es)
theorem i6.ext {S:ls}{W:Params}{X:List Addr}(x:br X n1 l1 n2 l2)(h:i6 S W n1 l1 fs es):i6 S W n2 l2 fs es:=
 i6.rec (motive:=λfs es u8=>i6 S W n2 l2 fs es) .nil (λh u8 t=> .cons (h.ext x) t) h
inductive fZ {α β:Type}(R:α->β->Prop)(ac:ao)(ah:dN):List (α×SV)->List (β×Value)->Prop
 |nil:fZ R ac ah [] []
 |cons {a:α} {b:β} {v:SV} {r:Value} {xs:List (α×SV)} {ys:List (β×Value)}:R a b->av ac ah v r->fZ R ac ah xs ys->fZ R ac ah ((a,v)::xs) ((b,r)::ys)
theorem fZ.ext {α β:Type}{R:α->β->Prop}{X:List Addr}(x:br X n1 l1 n2 l2){xs:List (α×SV)}{ys:List (β×Value)}(h:fZ R n1 l1 xs ys):fZ R n2 l2 xs ys:=
 fZ.rec (motive:=λxs ys u8=>fZ R n2 l2 xs ys) .nil (λh v u8 t=> .cons h (v.ext x) t) h
noncomputable def Hr (b:By)(k:List UInt8):Prop:=KBw.bInts k.toArray=b/\b.length<=big
section
variable {K K' :Type}[DecidableEq K][DecidableEq K']{R:K->K'->Prop}{ac:ao}{ah:dN}{k:K}{k' :K'}
theorem fZ.get (hR:∀a b,R a b->(a=k↔b=k')){xs:List (K×SV)}{ys:List (K' ×Value)}(h:fZ R ac ah xs ys):
  (fR k xs=none/\valueAt ys k' =none)∨∃v r,fR k xs=some v/\valueAt ys k' =some r/\av ac ah v r:=by
 refine fZ.rec (motive:=λxs ys u8=>(fR k xs=none/\valueAt ys k' =none)∨∃v r,fR k xs=some v/\valueAt ys k' =some r/\av ac ah v r) (.inl ⟨rfl,rfl⟩) (λ{a b v r xs ys} h1 h2 _ ih=> ?_) h
 have e:valueAt ((b,r)::ys) k' =if b=k' then some r else valueAt ys k' :=by
  unfold valueAt
  rw [List.find?_cons]
  by_cases q:b=k' <;>simp [q]
 rw [e,show fR k ((a,v)::xs)=if a=k then some v else fR k xs from rfl]
 by_cases q:a=k
 ·rw [if_pos q,if_pos ((hR _ _ h1).mp q)]
  exact .inr ⟨v,r,rfl,rfl,h2⟩
 ·rw [if_neg q,if_neg λz=>q ((hR _ _ h1).mpr z)]
  exact ih
theorem xz (b:K')(r:Value)(ys:List (K' ×Value))(x:Value)(nd:(((b,r)::ys).map (·.1)).Nodup):stored ((b,r)::ys) k' x=if b=k' then (b,x)::ys else (b,r)::stored ys k' x:=by
 rw [dY,List.nodup_cons] at nd
 unfold stored
 rw [List.any_cons,dY]
 by_cases q:b=k'
 ·subst q
  simp only [decide_true,Bool.true_or,if_true]
  congr 1
  have:∀kv∈ys,(if kv.1=b then (kv.1,x) else kv)=kv:=λkv hk=>if_neg λe=>nd.1 (by rw [<-e];exact hZ (f:=(·.1)) hk)
  rw [List.map_congr_left this,List.map_id']
 ·simp only [q,decide_false,Bool.false_or,if_false]
  split<;>simp
theorem fZ.put (hR:∀a b,R a b->(a=k↔b=k'))(hk:R k k')(hx:av ac ah x z){xs:List (K×SV)}{ys:List (K' ×Value)}(h:fZ R ac ah xs ys):(ys.map (·.1)).Nodup->fZ R ac ah (kZ k x xs) (stored ys k' z):=by
 refine fZ.rec (motive:=λxs ys u8=>(ys.map (·.1)).Nodup->fZ R ac ah (kZ k x xs) (stored ys k' z)) (λu8=> .cons hk hx .nil) (λ{a b v r xs ys} h1 h2 h3 ih nd=> ?_) h
 rw [xz b r ys z nd]
 show fZ R ac ah (if a=k then (a,x)::xs else (a,v)::kZ k x xs) _
 rw [dY,List.nodup_cons] at nd
 by_cases q:a=k
 ·rw [if_pos q,if_pos ((hR _ _ h1).mp q)]
  exact .cons h1 hx h3
 ·rw [if_neg q,if_neg λe=>q ((hR _ _ h1).mpr e)]
  exact .cons h1 h2 (ih nd.2)
theorem fZ.del (hR:∀a b,R a b->(a=k↔b=k')){xs:List (K×SV)}{ys:List (K' ×Value)}(h:fZ R ac ah xs ys):(ys.map (·.1)).Nodup->fZ R ac ah (qo k xs) (without ys k'):=by
 refine fZ.rec (motive:=λxs ys u8=>(ys.map (·.1)).Nodup->fZ R ac ah (qo k xs) (without ys k')) (λu8=> .nil) (λ{a b v r xs ys} h1 h2 h3 ih nd=> ?_) h
 have e:without ((b,r)::ys) k' =if b=k' then without ys k' else (b,r)::without ys k' :=by
  unfold without
  rw [List.filter_cons]
  by_cases q:b=k' <;>simp [q]
 rw [e]
 show fZ R ac ah (if a=k then xs else (a,v)::qo k xs) _
 rw [dY,List.nodup_cons] at nd
 by_cases q:a=k
 ·have qb:=(hR _ _ h1).mp q
  subst qb
  rw [if_pos q,if_pos rfl,without_of_not_mem ys b nd.1]
  exact h3
 ·rw [if_neg q,if_neg λe=>q ((hR _ _ h1).mpr e)]
  exact .cons h1 h2 (ih nd.2)
theorem fZ.length {xs:List (K×SV)}{ys:List (K' ×Value)}(h:fZ R ac ah xs ys):xs.length=ys.length:=
 fZ.rec (motive:=λxs ys u8=>xs.length=ys.length) rfl (λu8 u8 u8 t=>congrArg (·+1) t) h
theorem mm (x:SV):∀xs:List (K×SV),(kZ k x xs).length<=xs.length+1
 | []=>bS _
 |p::r=>by
  rw [zQ]
  split
  ·simp
  ·have:=mm x r;simp;assumption
theorem qT:∀xs:List (K×SV),(qo k xs).length<=xs.length
 | []=>bS _
 |p::r=>by
  rw [Aa]
  split
  ·simp
  ·have:=qT r;simp;assumption
end
theorem vB (h:KBw.bInts a=KBw.bInts b):a=b:=by
 obtain ⟨a⟩:=a
 obtain ⟨b⟩:=b
 congr 1
 rw [KBw.ints_list,KBw.ints_list] at h
 revert b
 induction a with
 |nil=>
  intro b h
  cases b with
  |nil=>rfl
  |cons y b=>cases h
 |cons x a ih=>
  intro b h
  cases b with
  |nil=>cases h
  |cons y b=>
   rw [dY,dY] at h
   injection h with h1 h2
   rw [ih b h2,show x=y from UInt8.toNat_inj.mp (by lia)]
theorem pa (hb:KBw.bInts dm=b):∀a k,Hr a k->(a=b↔k=dm.toList):=λa k h=>by
 constructor
 ·intro e
  have:=vB ((h.1.trans e).trans hb.symm)
  rw [<-this]
 ·intro e
  rw [<-h.1,e,<-hb]
inductive i7 (prog:Program)(w:World)(S:ls)(ac:ao)(ah:dN):Nat×Nat->SO->Prop
 |list {p:Nat×Nat} {vs:List SV} {aC:List Value} {n:Nat}:(p.1,listOf aC.toArray n)∈ac->aI ac ah vs aC->vs.length<=big->i7 prog w S ac ah p (.list vs)
 |aM {p:Nat×Nat} {o:Obj}:(p.1,o)∈ac->(p.1==sysModules)=false->(∀(K:Type) [DecidableEq K] (knd:KeyKind prog w K),o.IsDictOf knd [])->i7 prog w S ac ah p .aM
 |cg {p:Nat×Nat} {o:Obj} {kvs:List (By×SV)} {ys:List (List UInt8×Value)}:(p.1,o)∈ac->(p.1==sysModules)=false->o.IsDictOf (bytesKind prog w) ys->fZ Hr ac ah kvs ys->kvs.length<=big->i7 prog w S ac ah p (.cg kvs)
 |dB {p:Nat×Nat} {o:Obj} {kvs:List (Int×SV)} {ys:List (Int×Value)}:(p.1,o)∈ac->(p.1==sysModules)=false->o.IsDictOf (intKind prog w) ys->fZ Eq ac ah kvs ys->kvs.length<=big->i7 prog w S ac ah p (.dB kvs)
 |cj {p:Nat×Nat} {b:By} {dm:Array UInt8}:(p.1,eP dm)∈ac->KBw.bInts dm=b->b.length<=big->i7 prog w S ac ah p (.cj b)
 |inst {p:Nat×Nat} {c:Nat} {fs:List (Nat×SV)} {es:List DictEntry} {n:Nat}:(p.1,instObj (S.dD c) p.2)∈ac->(p.2,dictOf es n)∈ac->i6 S w.params ac ah fs es->(∀q∈fs,S.fld c q.1=true)->i7 prog w S ac ah p (.inst c fs)
noncomputable def OV (prog:Program)(w:World)(S:ls)(ac:ao)(ah:dN)(p:Nat×Nat):SO->Prop
 | .list vs=>∃aC n,(p.1,listOf aC.toArray n)∈ac/\aI ac ah vs aC/\vs.length<=big
 | .aM=>∃o,(p.1,o)∈ac/\(p.1==sysModules)=false/\∀(K:Type) [DecidableEq K] (knd:KeyKind prog w K),o.IsDictOf knd []
 | .cg kvs=>∃o ys,(p.1,o)∈ac/\(p.1==sysModules)=false/\o.IsDictOf (bytesKind prog w) ys/\fZ Hr ac ah kvs ys/\kvs.length<=big
 | .dB kvs=>∃o ys,(p.1,o)∈ac/\(p.1==sysModules)=false/\o.IsDictOf (intKind prog w) ys/\fZ Eq ac ah kvs ys/\kvs.length<=big
 | .cj b=>∃dm,(p.1,eP dm)∈ac/\b=KBw.bInts dm/\b.length<=big
 | .inst c fs=>∃es n,(p.1,instObj (S.dD c) p.2)∈ac/\(p.2,dictOf es n)∈ac/\i6 S w.params ac ah fs es/\∀q∈fs,S.fld c q.1=true
section
variable {prog:Program}{w:World}{S:ls}{ac:ao}{ah:dN}{p:Nat×Nat}
theorem ov (h:i7 prog w S ac ah p o):OV prog w S ac ah p o:=by
 cases h with
 |list a b c=>exact ⟨_,_,a,b,c⟩
 |aM a b c=>exact ⟨_,a,b,c⟩
 |cg a b c d e=>exact ⟨_,_,a,b,c,d,e⟩
 |dB a b c d e=>exact ⟨_,_,a,b,c,d,e⟩
 |cj a b c=>exact ⟨_,a,b.symm,c⟩
 |inst a b c d=>exact ⟨_,_,a,b,c,d⟩
theorem gp (h:i7 prog w S ac ah p (.list vs)):∃aC n,(p.1,listOf aC.toArray n)∈ac/\aI ac ah vs aC/\vs.length<=big:=ov h
end
structure fG (prog:Program)(w:World)(S:ls)(ac:ao)(ah:dN)(H:HP):Prop where
 len:ah.length=H.length
 obj:∀(i:Nat) o p,H[i]? =some o->ah[i]? =some p->i7 prog w S ac ah p o
 apart:ah.Pairwise λp q=>p.1<q.2
 DJ:∀p∈ah,p.2<=p.1
 there:∀p∈ah,∃o,(p.1,o)∈ac
noncomputable def eN (d:Addr)(o' :Obj)(ac:ao):ao:=ac.map λp=>if p.1=d then (d,o') else p
theorem mU (d:Addr)(o' :Obj)(ac:ao):(eN d o' ac).map (·.1)=ac.map (·.1):=by
 unfold eN
 rw [List.map_map]
 apply List.map_congr_left
 intro p _
 show (if p.1=d then (d,o') else p).1=p.1
 split<;>simp_all
theorem qx:∀{ac:ao},(∀p∈ac,p.1≠d)->eN d o' ac=ac
 | [],_=>rfl
 |p::r,h=>by
  have e:eN d o' (p::r)=(if p.1=d then (d,o') else p)::eN d o' r:=rfl
  rw [e,if_neg (h p (.head _)),qx λq hq=>h q (.tail _ hq)]
theorem zW {o o' :Obj}:∀{ac:ao},(ac.map (·.1)).Nodup->(d,o)∈ac->Upd d o o' ac (eN d o' ac)
 |p::r,nd,hm=>by
  rw [dY,List.nodup_cons] at nd
  have e:eN d o' (p::r)=(if p.1=d then (d,o') else p)::eN d o' r:=rfl
  rw [e]
  rcases cH hm with rfl|hm
  ·have hr:∀q∈r,q.1≠d:=λq hq e=>nd.1 (e▸hZ (f:=(·.1)) hq)
   rw [if_pos rfl,qx hr]
   exact .head hr
  ·have hd:p.1≠d:=λe=>nd.1 (e▸hZ (f:=(·.1)) hm)
   rw [if_neg hd]
   exact .tail hd (zW nd.2 hm)
theorem dZ (hp:p∈ac)(hd:p.1≠d):p∈eN d o' ac:=
 List.mem_map.mpr ⟨p,hp,if_neg hd⟩
theorem dE (hp:(d,o)∈ac):(d,o')∈eN d o' ac:=
 List.mem_map.mpr ⟨_,hp,if_pos rfl⟩
theorem fc {ac:ao}{a:Addr}(nd:(ac.map (·.1)).Nodup)(h1:(a,o)∈ac)(h2:(a,o')∈ac):o=o' :=by
 induction ac with
 |nil=>exact jZ h1
 |cons p r ih=>
  rw [dY,List.nodup_cons] at nd
  rcases cH h1 with e1|h1<;>rcases cH h2 with e2|h2
  ·rw [<-e1] at e2;exact (Prod.mk.inj e2).2.symm
  ·exact absurd (by rw [<-e1];exact hZ (f:=(·.1)) h2) nd.1
  ·exact absurd (by rw [<-e2];exact hZ (f:=(·.1)) h1) nd.1
  ·exact ih nd.2 h1 h2
theorem br.rep {X:List Addr}{ac:ao}{ah:dN}{d:Addr}{o o' :Obj}(nd:(ac.map (·.1)).Nodup)(hm:(d,o)∈ac)(ho:dV o=false)(hc:fA o=false):br X ac ah (eN d o' ac) ah:=
 have key:∀p∈ac,p.1=d->p.2=o:=λp hp hd=>fc (a:=d) nd (by rw [<-hd];exact hp) hm
 ⟨⟨[],(ch _).symm⟩,λp hp q=>by
  by_cases hd:p.1=d
  ·rw [key p hp hd,ho] at q;exact xh q
  ·exact dZ hp hd,λp hp q u8=>by
  by_cases hd:p.1=d
  ·rw [key p hp hd,hc] at q;exact xh q
  ·exact dZ hp hd⟩
theorem br.rJ {X:List Addr}{ac:ao}{ah:dN}{d:Addr}{o o' :Obj}(nd:(ac.map (·.1)).Nodup)(hm:(d,o)∈ac)(ho:dV o=false)(hc:d∈X):br X ac ah (eN d o' ac) ah:=
 ⟨⟨[],(ch _).symm⟩,λp hp q=>by
  by_cases hd:p.1=d
  ·rw [show p.2=o from fc (a:=d) nd (by rw [<-hd];exact hp) hm,ho] at q;exact xh q
  ·exact dZ hp hd,λp hp q z=>dZ hp λhd=>z (hd▸hc)⟩
section
variable {prog:Program}{w:World}{S:ls}{ac az:ao}{ah bM:dN}{H:HP}{p:Nat×Nat}
theorem i7.keep {X:List Addr}(x:br X ac ah az bM)(k:∀q∈ac,q.1=p.1∨q.1=p.2->q∈az)(h:i7 prog w S ac ah p o):i7 prog w S az bM p o:=by
 cases h with
 |list hm hv hl=>exact .list (k _ hm (.inl rfl)) (hv.ext x) hl
 |aM hm hz hd=>exact .aM (k _ hm (.inl rfl)) hz hd
 |cg hm hz hd hp hl=>exact .cg (k _ hm (.inl rfl)) hz hd (hp.ext x) hl
 |dB hm hz hd hp hl=>exact .dB (k _ hm (.inl rfl)) hz hd (hp.ext x) hl
 |cj hm hb hl=>exact .cj (k _ hm (.inl rfl)) hb hl
 |inst hm hd hf hl=>exact .inst (k _ hm (.inl rfl)) (k _ hd (.inr rfl)) (hf.ext x) hl
theorem fG.at (h:fG prog w S ac ah H){i:Nat}{o:SO}(e:H[i]? =some o):∃p,ah[i]? =some p/\i7 prog w S ac ah p o:=by
 have hi:=(gw e).1
 have hl:i<ah.length:=by rw [h.len];exact hi
 exact ⟨ah[i],eW hl,h.obj i o _ e (eW hl)⟩
theorem fG.ne (h:fG prog w S ac ah H){i j:Nat}{p q:Nat×Nat}(hi:ah[i]? =some p)(hj:ah[j]? =some q)(ij:i≠j):p.1≠q.1/\p.1≠q.2/\p.2≠q.1/\p.2≠q.2:=by
 obtain ⟨li,ei⟩:=gw hi
 obtain ⟨lj,ej⟩:=gw hj
 have a:=h.DJ p (ei▸List.getElem_mem li)
 have b:=h.DJ q (ej▸List.getElem_mem lj)
 have P:=List.pairwise_iff_getElem.mp h.apart
 rcases Nat.lt_or_gt_of_ne ij with l|l
 ·have z:=P i j li lj l
  rw [ei,ej] at z
  refine ⟨?_, ?_, ?_, ?_⟩<;>(intro e;lia)
 ·have z:=P j i lj li l
  rw [ei,ej] at z
  refine ⟨?_, ?_, ?_, ?_⟩<;>(intro e;lia)
theorem fG.turn (h:fG prog w S ac ah H)(nd:(ac.map (·.1)).Nodup){o' :SO}(hp:ah[i]? =some p)(hd:d=p.1∨d=p.2)(hm:(d,x)∈ac)(hs:dV x=false)(hc:fA x=false)
  (ho:i7 prog w S (eN d x' ac) ah p o'):fG prog w S (eN d x' ac) ah (H.set i o'):=by
 refine ⟨by rw [List.length_set];exact h.len,λj o q ej hq=> ?_,h.apart,h.DJ,λq hq=> ?_⟩
 ·by_cases ij:i=j
  ·subst ij
   rw [hp] at hq;cases hq
   have hl:=(gw ej).1
   rw [List.length_set] at hl
   rw [List.getElem?_set_self hl] at ej
   cases ej
   exact ho
  ·rw [List.getElem?_set_ne ij] at ej
   refine (h.obj j o q ej hq).keep (br.rep (X:= []) nd hm hs hc) λr hr e=>dZ hr ?_
   have z:=h.ne hp hq ij
   rcases hd with rfl|rfl<;>rcases e with e|e<;>rw [e]<;>simp [Ne.symm z.1,Ne.symm z.2.1,Ne.symm z.2.2.1,Ne.symm z.2.2.2]
 ·obtain ⟨o,ho⟩:=h.there q hq
  by_cases e:q.1=d
  ·exact ⟨x',by rw [e];exact dE hm⟩
  ·exact ⟨o,dZ ho e⟩
theorem fG.more (h:fG prog w S ac ah H)(q:Addr×Obj):fG prog w S (q::ac) ah H:=
 ⟨h.len,λi o p e hp=>(h.obj i o p e hp).keep (br.cons (X:= []) q) λu8 hr u8=> .tail _ hr,h.apart,h.DJ,λp hp=>let ⟨o,ho⟩:=h.there p hp;⟨o, .tail _ ho⟩⟩
theorem fG.KH (h:fG prog w S ac ah H)(nd:(ac.map (·.1)).Nodup)(hm:(d,x)∈ac)(hs:dV x=false)(hd:∀p∈ah,p.1≠d/\p.2≠d):fG prog w S (eN d x' ac) ah H:=
 ⟨h.len,λi o p e hp=>(h.obj i o p e hp).keep (br.rJ (X:= [d]) nd hm hs (by simp)) λr hr e' =>dZ hr (by
   have z:=hd p (List.mem_of_getElem? hp)
   rcases e' with e' |e' <;>rw [e']<;>simp [z.1,z.2]),h.apart,h.DJ,λp hp=>let ⟨o,ho⟩:=h.there p hp;⟨o,dZ ho (hd p hp).1⟩⟩
theorem fG.new (h:fG prog w S ac ah H){D:Addr}{x:Obj}{o:SO}(lt:∀q∈ac,q.1<D)(ho:i7 prog w S ((D,x)::ac) (ah++ [(D,D)]) (D,D) o):fG prog w S ((D,x)::ac) (ah++ [(D,D)]) (H++ [o]):=by
 refine ⟨by simp [h.len],λi o' p e hp=> ?_, ?_,λp hp=> ?_,λp hp=> ?_⟩
 ·rcases Nat.lt_or_ge i H.length with l|l
  ·rw [iM l] at e
   rw [iM (by rw [h.len];exact l)] at hp
   exact (h.obj i o' p e hp).keep (br.app (X:= []) _ _) λu8 hr u8=> .tail _ hr
  ·have:i=H.length:=by
    have:=(gw e).1
    simp at this;lia
   subst this
   rw [eG (bS _)] at e
   rw [eG (by rw [h.len];exact bS _)] at hp
   simp [h.len] at e hp
   subst e hp
   exact ho
 ·rw [List.pairwise_append]
  refine ⟨h.apart,List.pairwise_singleton ..,λp hp q hq=> ?_⟩
  rw [eF hq]
  obtain ⟨o,ho⟩:=h.there p hp
  exact lt _ ho
 ·rcases gi hp with hp|hp
  ·exact h.DJ p hp
  ·rw [eF hp];exact bS _
 ·rcases gi hp with hp|hp
  ·obtain ⟨o,ho⟩:=h.there p hp;exact ⟨o, .tail _ ho⟩
  ·rw [eF hp];exact ⟨x, .head _⟩
theorem fG.JE (h:fG prog w S ac ah H){x dx:Addr}(lt:∀q∈ac,q.1<dx)(lx:dx<x):
  fG prog w S ((x,instObj (S.dD c) dx)::(dx,dictOf [] 0)::ac) (ah++ [(x,dx)]) (H++ [.inst c []]):=by
 have X:br [] ac ah ((x,instObj (S.dD c) dx)::(dx,dictOf [] 0)::ac) (ah++ [(x,dx)]):=⟨⟨_,rfl⟩,λu8 hp u8=> .tail _ (.tail _ hp),λu8 hp u8 u8=> .tail _ (.tail _ hp)⟩
 refine ⟨by simp [h.len],λi o' p e hp=> ?_, ?_,λp hp=> ?_,λp hp=> ?_⟩
 ·rcases Nat.lt_or_ge i H.length with l|l
  ·rw [iM l] at e
   rw [iM (by rw [h.len];exact l)] at hp
   exact (h.obj i o' p e hp).keep X λu8 hr u8=> .tail _ (.tail _ hr)
  ·have:i=H.length:=by
    have:=(gw e).1
    simp at this;lia
   subst this
   rw [eG (bS _)] at e
   rw [eG (by rw [h.len];exact bS _)] at hp
   simp [h.len] at e hp
   subst e hp
   exact .inst (.head _) (.tail _ (.head _)) .nil (λu8 h=>jZ h)
 ·rw [List.pairwise_append]
  refine ⟨h.apart,List.pairwise_singleton ..,λp hp q hq=> ?_⟩
  rw [eF hq]
  obtain ⟨o,ho⟩:=h.there p hp
  exact lt _ ho
 ·rcases gi hp with hp|hp
  ·exact h.DJ p hp
  ·rw [eF hp];exact Nat.le_of_lt lx
 ·rcases gi hp with hp|hp
  ·obtain ⟨o,ho⟩:=h.there p hp;exact ⟨o, .tail _ (.tail _ ho)⟩
  ·rw [eF hp];exact ⟨_, .head _⟩
end
structure Cx where
 prog:Program
 w:World
 K:Frag
 S:ls
 P:PI
 pv:Program
 loose:List Str
 JT:ExcName->Option Value
 mg:Str->Option Value
 mb:Str->Option Value
 base:Heap
 g₀:Heap
 outer:List Env
 A₀:Around
 cn:Str
 cs:Scope
 L:Addr
 a:Addr
 cd:Value
 cl:List (Str×Addr)
 gens:Array GenState
 drawn:Drawn
 os:OsState
noncomputable def Cx.env (c:Cx):Env:=envX c.cn c.cs c.L c.a c.cd c.cl
noncomputable def Cx.A (c:Cx):Around:=c.A₀.deeper c.env
noncomputable def Cx.fs (c:Cx):List Addr:=c.outer.filterMap (·.frame)
noncomputable def kW (K:Frag)(C:Addr):Bool:=
 findIn K (.ref C) "__setattr__"==some (some (.builtin "object.__setattr__"))&&plainOver K C&&hasDictIn K C&&plainGet K C ""&&makesIn K C
noncomputable def pu (K:Frag)(C:Addr)(n:Str):Bool:=
 takerIn K C n==some none&&(match findIn K (.ref C) n with|some at_=>noGet K at_|none=>false)
noncomputable def rO (K:Frag)(C:Addr)(n:Str)(f:Addr):Bool:=
 findIn K (.ref C) n==some (some (.ref f))&&isFn K (.ref f)&&keepIn K (.ref f)
noncomputable def fm:Bi->Value
 | .len=> .builtin "len"| .bytes=> .type "bytes"| .bytearray=> .type "bytearray"| .range=> .type "range"| .list=> .type "list"| .tuple=> .type "tuple"
 | .sorted=> .builtin "sorted"| .min=> .builtin "min"| .sum=> .builtin "sum"
structure y2 (K:Frag)(P:PI)(S:ls):Prop where
 inj:∀a b,S.attr a=S.attr b->a=b
 fld:S.fld=P.field
 field:∀c a,P.field c a=true->kW K (S.dD c)=true/\pu K (S.dD c) (S.attr a)=true
 mD:∀c m f,P.mD c m=some f->kW K (S.dD c)=true/\rO K (S.dD c) (S.attr m) (S.oD f)=true
 init:∀c f,P.init c=some f->kW K (S.dD c)=true/\keepIn K (.ref (S.dD c))=true/\findIn K (.ref (S.dD c)) "__init__"=some (some (.ref (S.oD f)))/\isFn K (.ref (S.oD f))=true
 Qn:∀x i,S.glob.lookup x=some (.int i)->∃t,nsIn K mainGlobals x=some (some (.int i t))
 FC:∀x b,S.glob.lookup x=some (.bytes b)->∃dm t,nsIn K mainGlobals x=some (some (.bytes dm t))/\KBw.bInts dm=b/\b.length<=big
 R9:∀x f,S.glob.lookup x=some (.fn f)->nsIn K mainGlobals x=some (some (.ref (S.oD f)))/\keepIn K (.ref (S.oD f))=true
 EP:∀x k,S.glob.lookup x=some (.cls k)->nsIn K mainGlobals x=some (some (.ref (S.dD k)))
 Vv:∀x b,S.glob.lookup x=some (.bi b)->nsIn K mainGlobals x=some none/\bootBuiltins x=some (fm b)/\x≠ "__name__"
 Mw:S.attr P.mc.append= "append"
 PJ:S.attr P.mc.extend= "extend"
 IU:S.attr P.mc.get= "get"
structure Cx.Ok (c:Cx)(d:Nat):Prop where
 mM:y2 c.K c.P c.S
 below:Below c.A₀ c.base c.outer c.g₀
 Jb:c.K.In c.base
 top:Top c.pv c.loose c.JT c.mg c.mb c.base
 kind:c.cs.kind= .function
 hand:c.A₀.handled=none
 Rk:(c.cl.map (·.2)).Nodup
 XV:(c.cl.map (·.1)).Nodup
 Kv:KtsDicts c.fs c.g₀
structure aV (c:Cx)(m:Str->Option Value)(ac:ao)(ah:dN)(H:HP)(s:Shared):Prop where
 g:∃g,KtsTurn c.fs c.g₀ g/\Fr g c.L s.heap m/\News g c.L s.heap ac
 nd:(ac.map (·.1)).Nodup
 hr:fG c.prog c.w c.S ac ah H
 cells:∀x a,c.cl.lookup x=some a->∃o v₀,(a,o)∈ac/\o.data= .cell v₀
 sh:s.gens=c.gens/\s.drawn=c.drawn/\s.os=c.os
theorem aV.gE (hn:aV c m ac ah H s){C:Prop}(k:∀g,KtsTurn c.fs c.g₀ g->Fr g c.L s.heap m->News g c.L s.heap ac->C):C:=by
 refine mF hn.g λg T F N=> ?_
 exact k g T F N
theorem rF {ac:ao}(nd:(ac.map (·.1)).Nodup)(lt:∀q∈ac,q.1<D):(((D,x)::ac).map (·.1)).Nodup:=by
 rw [dY,List.nodup_cons]
 refine ⟨λhm=> ?_,nd⟩
 refine aZ (gD hm) λq hq e=> ?_
 exact absurd (lt q hq) (by rw [e];exact Nat.lt_irrefl _)
theorem Br (nd:(ac.map (·.1)).Nodup):((eN d x ac).map (·.1)).Nodup:=by rw [mU];exact nd
section
variable {c:Cx}{d:Nat}{m:Str->Option Value}{ac:ao}{ah:dN}{H:HP}{s:Shared}
theorem zA (hf:g₀.FunFrames base outer)(st:base.StaysIn g₀)(T:KtsTurn (outer.filterMap (·.frame)) g₀ g):base.StaysIn g:=λb o e=>
 T.other b o (st b o e) λhm=>by
  obtain ⟨h1,_⟩:=hf.mem hm
  rw [h1] at e;exact mZ e
theorem Cx.Ok.stays (ok:c.Ok d)(T:KtsTurn c.fs c.g₀ g):c.base.StaysIn g:=zA ok.below.frames ok.below.stays T
theorem Cx.Ok.qn (ok:c.Ok d)(T:KtsTurn c.fs c.g₀ g):c.K.In g:=ok.Jb.keeps (ok.stays T)
theorem Cx.Ok.C6 (ok:c.Ok d)(T:KtsTurn c.fs c.g₀ g):TopRead c.pv c.loose c.mg c.mb g:=(topRead_of ok.top).keeps (ok.stays T)
theorem Cx.Ok.Va (ok:c.Ok d):c.A.handled=none:=ok.hand
theorem aV.addr (hn:aV c m ac ah H s)(hp:p∈ac):s.heap.get? p.1=some p.2:=by
 refine hn.gE λg u8 u8 N=> ?_
 exact (N p hp).1
theorem aV.lt (hn:aV c m ac ah H s):∀q∈ac,q.1<s.heap.objs.size:=λq hq=>Heap.lt_size (hn.addr hq)
theorem aV.toks (hn:aV c m ac ah H s)(t:Nat):aV c m ac ah H {s with toks:=t}:=⟨hn.g,hn.nd,hn.hr,hn.cells,hn.sh⟩
theorem aV.same (hn:aV c m ac ah H s)(h1:s'.heap=s.heap)(h2:s'.gens=s.gens)(h3:s'.drawn=s.drawn)(h4:s'.os=s.os):aV c m ac ah H s' :=by
 obtain ⟨g,nd,hr,ce,a,b,e⟩:=hn
 refine ⟨?_,nd,hr,ce,h2.trans a,h3.trans b,h4.trans e⟩
 rw [h1];exact g
theorem aV.more (hn:aV c m ac ah H s){g:Heap}{D:Addr}{x:Obj}{h' :Heap}{t:Nat}(T:KtsTurn c.fs c.g₀ g)(F:Fr g c.L h' m)(N:News g c.L h' ((D,x)::ac))(lt:∀q∈ac,q.1<D):
  aV c m ((D,x)::ac) ah H {s with heap:=h',toks:=t}:=
 ⟨⟨g,T,F,N⟩,rF hn.nd lt,hn.hr.more _,λy a e=>let ⟨o,v,h1,h2⟩:=hn.cells y a e;⟨o,v, .tail _ h1,h2⟩,hn.sh⟩
theorem aV.new (hn:aV c m ac ah H s){g:Heap}{D:Addr}{x:Obj}{o:SO}{h' :Heap}{t:Nat}(T:KtsTurn c.fs c.g₀ g)(F:Fr g c.L h' m)(N:News g c.L h' ((D,x)::ac))(lt:∀q∈ac,q.1<D)
  (ho:i7 c.prog c.w c.S ((D,x)::ac) (ah++ [(D,D)]) (D,D) o):aV c m ((D,x)::ac) (ah++ [(D,D)]) (H++ [o]) {s with heap:=h',toks:=t}:=
 ⟨⟨g,T,F,N⟩,rF hn.nd lt,hn.hr.new lt ho,λy a e=>let ⟨o,v,h1,h2⟩:=hn.cells y a e;⟨o,v, .tail _ h1,h2⟩,hn.sh⟩
theorem rK (hn:aV c m ac ah H s):av ((D,x)::ac) (ah++ [(D,D)]) (.ref H.length) (.ref D):=
 .ref (p:=(D,D)) (by rw [<-hn.hr.len,eG (bS _)];simp)
theorem aV.turn (hn:aV c m ac ah H s){g:Heap}{i:Nat}{p:Nat×Nat}{dd:Addr}{x x' :Obj}{o' :SO}{h' :Heap}{t:Nat}(T:KtsTurn c.fs c.g₀ g)(F:Fr g c.L h' m)(N:News g c.L h' (eN dd x' ac))
  (hp:ah[i]? =some p) (hd:dd=p.1∨dd=p.2) (hm:(dd,x)∈ac) (hs:dV x=false) (hc:fA x=false) (ho:i7 c.prog c.w c.S (eN dd x' ac) ah p o'):
  aV c m (eN dd x' ac) ah (H.set i o') {s with heap:=h',toks:=t}:=
 ⟨⟨g,T,F,N⟩,Br hn.nd,hn.hr.turn hn.nd hp hd hm hs hc ho,λy a e=>by
  refine uz (hn.cells y a e) λo v h1 h2=> ?_
  refine ⟨o,v,dZ h1 λq=> ?_,h2⟩
  have:o=x:=fc (a:=dd) hn.nd (by rw [<-(show a=dd from q)];exact h1) hm
  subst this
  unfold fA at hc
  rw [h2] at hc
  exact Bool.noConfusion hc,hn.sh⟩
end
section
variable {S:ls}{W:Params}{ac:ao}{ah:dN}
theorem pY (n b:Str)(h:Int)(t:Tok)(r:Value)(es:List DictEntry):getL n (⟨h, .str b t,r⟩::es)=if b=n then some (some r) else getL n es:=by
 unfold getL
 rw [List.find?_cons,List.any_cons]
 show (match (match (b==n) with|true=>some (⟨h, .str b t,r⟩:DictEntry)|false=>es.find? λx=>x.key.isStr n) with|some e=>some (some e.val)|none=>if (false||es.any λx=>x.refKey)=true then none else some none)=_
 by_cases q:b=n
 ·subst q;simp
 ·rw [eS q,if_neg q];rfl
theorem i6.get (inj:∀a b,S.attr a=S.attr b->a=b)(h:i6 S W ac ah fs es):fQ a fs=some v->∃r,getL (S.attr a) es=some (some r)/\av ac ah v r:=by
 refine i6.rec (motive:=λfs es u8=>fQ a fs=some v->∃r,getL (S.attr a) es=some (some r)/\av ac ah v r) (λe=>fh e) (λ{b y r t fs es} hv _ ih e=> ?_) h
 change (if b=a then some y else fQ a fs)=some v at e
 by_cases q:b=a
 ·rw [if_pos q] at e
  exact ⟨r,by rw [pY,if_pos (q▸rfl)],cq e▸hv⟩
 ·rw [if_neg q] at e
  refine aZ (ih e) λr' h1 h2=> ?_
  exact ⟨r',by rw [pY,if_neg λz=>q (inj _ _ z)];exact h1,h2⟩
theorem i6.miss (inj:∀a b,S.attr a=S.attr b->a=b)(h:i6 S W ac ah fs es):fQ a fs=none->getL (S.attr a) es=some none:=by
 refine i6.rec (motive:=λfs es u8=>fQ a fs=none->getL (S.attr a) es=some none) (λu8=>rfl) (λ{b y r t fs es} hv _ ih e=> ?_) h
 change (if b=a then some y else fQ a fs)=none at e
 by_cases q:b=a
 ·rw [if_pos q] at e;exact GG e
 ·rw [if_neg q] at e
  rw [pY,if_neg λz=>q (inj _ _ z)]
  exact ih e
theorem i6.put (inj:∀a b,S.attr a=S.attr b->a=b)(t:Tok)(hv:av ac ah v r)(h:i6 S W ac ah fs es):
  i6 S W ac ah (kH a v fs) (putL (S.attr a) (PyData.keyHash W (S.attr a)) (.str (S.attr a) t) r es):=by
 refine i6.rec (motive:=λfs es u8=>i6 S W ac ah (kH a v fs) (putL (S.attr a) (PyData.keyHash W (S.attr a)) (.str (S.attr a) t) r es)) (.cons hv .nil) (λ{b y r' t' fs es} hy ht ih=> ?_) h
 unfold putL;rw [Ak]
 by_cases q:b=a
 ·subst q
  simp only [Value.isStr,iV,if_true]
  exact .cons hv ht
 ·have ne:(S.attr b==S.attr a)=false:=eS λz=>q (inj _ _ z)
  simp only [Value.isStr,ne,Bool.false_eq_true,if_false,if_neg q]
  exact .cons hy ih
theorem i6.length (h:i6 S W ac ah fs es):es.length=fs.length:=
 i6.rec (motive:=λfs es u8=>es.length=fs.length) rfl (λu8 u8 t=>congrArg (·+1) t) h
theorem qV (a:Nat)(v:SV):∀fs:List (Nat×SV),(kH a v fs).length<=fs.length+1
 | []=>bS _
 |p::r=>by
  rw [Ak]
  split
  ·simp
  ·have:=qV a v r;simp;assumption
set_option tactic.hygienic true in
theorem yU:∀{fs:List (Nat×SV)} {q:Nat×SV},q∈kH a v fs->q.1=a∨∃q' ∈fs,q'.1=q.1
 | [],q,h=>by
  have:q=(a,v):=by simpa [kH] using h
  exact .inl (by rw [this])
 |p::r,q,h=>by
  rw [Ak] at h
  split at h
  ·rename_i e
   rcases cH h with rfl|h
   ·exact .inl e
   ·exact .inr ⟨q, .tail _ h,rfl⟩
  ·rcases cH h with rfl|h
   ·exact .inr ⟨_, .head _,rfl⟩
   ·rcases yU h with z|⟨q',h',z⟩
    ·exact .inl z
    ·exact .inr ⟨q', .tail _ h',z⟩
end
section
variable {c:Cx}{d:Nat}{m:Str->Option Value}{ac:ao}{ah:dN}{H:HP}{s:Shared}{A:Around}{E:Value->Shared->Prop}
theorem Di (h:av n l v r):handedIn r=true:=by cases h<;>rfl
theorem zU {P:Prop}(e:eC v a H= .ok x H')(k:∀i cc fs,v= .ref i->H[i]? =some (.inst cc fs)->fQ a fs=some x->H' =H->P):P:=by
 have B:(dz.bad:dz SV)= .ok x H'->P:=nofun
 cases v with
 |ref i=>
  change (match H[i]? with|some (.inst _ fs)=>(match fQ a fs with|some v=> .ok v H|none=> .bad)|_=> .bad)=dz.ok x H' at e
  cases h:H[i]? with
  |none=>rw [h] at e;exact B e
  |some o=>
   rw [h] at e
   cases o with
   |inst cc fs=>
    change (match fQ a fs with|some v=> .ok v H|none=> .bad)=dz.ok x H' at e
    cases q:fQ a fs with
    |none=>rw [q] at e;exact B e
    |some y=>rw [q] at e;cases e;exact k i cc fs rfl h q rfl
   |_=>exact B e
 |_=>exact B e
theorem Gw (h:fQ a fs=some y):∃q∈fs,q.1=a:=by
 induction fs with
 |nil=>exact fh h
 |cons q fs ih=>
  change (if q.1=a then some q.2 else fQ a fs)=some y at h
  split at h
  ·exact ⟨q, .head _,‹_›⟩
  ·refine aZ (ih h) λq' a1 a2=> ?_
   exact ⟨q', .tail _ a1,a2⟩
set_option tactic.hygienic true in
theorem I6 (ok:c.Ok d)(hn:aV c m ac ah H s)(hv:av ac ah v rv)(e:eC v a H= .ok x H')
  (k:∀rx t,av ac ah x rx->H' =H->Q rx {s with toks:=t}):wpAny (model c.prog c.w) A (getAttr rv (c.S.attr a) true) Q E s:=by
 refine zU e λi cc fs ev ho hg hH=> ?_
 refine aZ (cK ev hv) λp gP hp=> ?_;subst gP
 refine hn.gE λg T F N=> ?_
 refine xM (ov (hn.hr.obj i _ p ho hp)) λes n hm hd hf hl=> ?_
 refine aZ (hf.get ok.mM.inj hg) λr h1 h2=> ?_
 refine aZ (Gw hg) λq hq eq=> ?_
 obtain ⟨b1,b2⟩:=ok.mM.field cc a (by rw [<-ok.mM.fld,<-eq];exact hl q hq)
 unfold kW at b1
 unfold pu at b2
 simp only [Bool.and_eq_true] at b1 b2
 obtain ⟨_,fI⟩:=b2
 split at fI
 ·rename_i at_ Sw
  exact get_own F (ok.qn T) (InstAt.of_news N hm hd) b1.1.2 b1.1.1.2 Sw fI h1 (Di h2) (k _ _ h2 hH)
 ·exact xh fI
end
noncomputable def stop (e:Expr):Bool:=e.ctorIdx==22||e.ctorIdx==7||e.ctorIdx==26
noncomputable def nT (e:Expr):Bool:=e.ctorIdx==8||e.ctorIdx==9||e.ctorIdx==10
noncomputable def zo (e:Expr):Bool:=e.ctorIdx==24||e.ctorIdx==25
noncomputable def mL (e:Expr):Bool:= !(e.ctorIdx==0||e.ctorIdx==3||e.ctorIdx==5||e.ctorIdx==15)
noncomputable def jM (e:Expr):Bool:=if h:e.ctorIdx=16 then Expr.Call.elim (motive_1:=λu8=>Bool) e h λf xs u8 u8=>f.ctorIdx==23&& !xs.isEmpty else true
theorem CE {xs ks p}(h:(f.ctorIdx==23&& !xs.isEmpty)=true)(attr:Str)(env:Env)(whole:Sem Value):attributeBase (.Call f xs ks p) attr env whole=whole:=by
 rw [Bool.and_eq_true] at h
 refine Expr.Name.elim (motive_1:=λf=>attributeBase (.Call f xs ks p) attr env whole=whole) f (eq_of_beq h.1) λx q=> ?_
 cases xs with
 |nil=>exact xh h.2
 |cons _ _=>rfl
structure Pl (e:Expr):Prop where
 sub:stop e=false->∀o i,subscripted e false o i=operate [o,i] (getItem o i)
 star:stop e=false->∀aH env,starEach (e::aH) env=(false,eval e env)::starEach aH env
 marks:stop e=false->∀op,behindInMarks op e=false
 fold:stop e=false->∀env x,foldedSetIterable e env x=pure x
 swap:nT e=false->∀t n env,swapsWith e t n env=pure false
 Qy:zo e=false->∀es k p env,swappedStores [.Tuple es k p] e env=pure none
 Yk:mL e=true->∀env whole,isTrue e env whole=(do let v<-whole;standAt e.pos;holding [v] (truthy v))
 base:jM e=true->∀attr env whole,attributeBase e attr env whole=whole
theorem pl (e:Expr):Pl e:=by
 refine @Expr.casesOn Pl e ?_ ?_ ?_ ?_ ?_ ?_ ?_ ?_ ?_ ?_ ?_ ?_ ?_ ?_ ?_ ?_ ?_ ?_ ?_ ?_ ?_ ?_ ?_ ?_ ?_ ?_ ?_<;>intros<;>exact ⟨by first|exact λu8 o i=> @rfl _ (operate [o,i] (getItem o i))|exact λh=>B6 h,by first|exact λu8 u8 u8=>rfl|exact λh=>B6 h,by first|exact λu8 u8=> @rfl _ false|exact λh=>B6 h,by first|exact λu8 u8 x=> @rfl _ (pure x)|exact λh=>B6 h,by first|exact λu8 u8 u8 u8=> @rfl _ (pure false)|exact λh=>B6 h,by first|exact λu8 u8 u8 u8 u8=> @rfl _ (pure none)|exact λh=>B6 h,by first|exact λu8 u8 u8=>rfl|exact λh=>xh h,by first|exact λu8 u8 u8 w=> @rfl _ w|exact CE⟩
theorem rP:∀{ac:ao},(ac.map (·.1)).Nodup->(d,o)∈ac->UpdF d o ac (λo' =>eN d o' ac)
 |p::r,nd,hm=>by
  rw [dY,List.nodup_cons] at nd
  have e:(λo' =>eN d o' (p::r))=λo' =>(if p.1=d then (d,o') else p)::eN d o' r:=rfl
  rw [e]
  rcases cH hm with rfl|hm
  ·have hr:∀q∈r,q.1≠d:=λq hq e=>nd.1 (e▸hZ (f:=(·.1)) hq)
   have:(λo' :Obj=>(if (d,o).1=d then (d,o') else (d,o))::eN d o' r)=λo' =>(d,o')::r:=by
    funext o';rw [if_pos rfl,qx hr]
   rw [this]
   exact .head hr
  ·have hd:p.1≠d:=λe=>nd.1 (e▸hZ (f:=(·.1)) hm)
   simp only [if_neg hd]
   exact .tail hd (rP nd.2 hm)
section
variable {c:Cx}{d:Nat}{m:Str->Option Value}{ac:ao}{ah:dN}{H:HP}{s:Shared}{A:Around}{E:Value->Shared->Prop}
theorem A1 {α:Type}{i:Nat}{f:SO->Option α}{x:α}{P:Prop}(e:(match H[i]? with|some o=>f o|none=>none)=some x)(k:∀o,H[i]? =some o->f o=some x->P):P:=by
 cases h:H[i]? with
 |none=>rw [h] at e;exact fh e
 |some o=>rw [h] at e;exact k o h e
theorem xD {P:PI}{C:Prop}(e:bD P o a v H=some H')(k:∀i cc fs,o= .ref i->H[i]? =some (.inst cc fs)->P.field cc a=true/\fs.length<100->H' =H.set i (.inst cc (kH a v fs))->C):C:=by
 cases o with
 |ref i=>
  change (match H[i]? with
   |some (.inst c fs)=>if P.field c a=true/\fs.length<100 then some (H.set i (.inst c (kH a v fs))) else none
   |_=>none)=some H' at e
  cases h:H[i]? with
  |none=>rw [h] at e;exact fh e
  |some o=>
   rw [h] at e
   cases o with
   |inst cc fs=>
    change (if P.field cc a=true/\fs.length<100 then some (H.set i (.inst cc (kH a v fs))) else none)=some H' at e
    split at e
    ·exact k i cc fs rfl h ‹_› (cq e).symm
    ·exact fh e
   |_=>exact fh e
 |_=>exact fh e
theorem th (ok:c.Ok d)(hn:aV c m ac ah H s)(ho:av ac ah o ro)(hx:av ac ah x rx)(e:bD c.P o a x H=some H')
  (k:∀az s',aV c m az ah H' s'->br [] ac ah az ah->Q () s'):wpAny (model c.prog c.w) A (setAttr ro (c.S.attr a) rx) Q E s:=by
 refine xD e λi cc fs eo hO hc eH=> ?_
 refine aZ (cK eo ho) λp gP hp=> ?_;subst gP
 subst eH
 refine hn.gE λg T F N=> ?_
 refine xM (ov (hn.hr.obj i _ p hO hp)) λes n hm hd hf hl=> ?_
 obtain ⟨b1,b2⟩:=ok.mM.field cc a hc.1
 unfold kW at b1
 unfold pu at b2
 simp only [Bool.and_eq_true,beq_iff_eq] at b1 b2
 have NH:=hf.put (W:=c.w.params) ok.mM.inj (s.toks+1) hx (a:=a)
 have hg:(getL (c.S.attr a) es).isSome=true:=by
  cases hq:fQ a fs with
  |some y=>obtain ⟨r,h1,_⟩:=hf.get ok.mM.inj hq;rw [h1];rfl
  |none=>rw [hf.miss ok.mM.inj hq];rfl
 refine set_dict F (ok.qn T) N (InstAt.of_news N hm hd) rfl b1.1.1.1.1 b1.1.1.1.2 b2.1 b1.1.1.2 hg rfl (zW hn.nd hd) ?_ λh' F' N' => ?_
 ·rw [i6.length NH];have:=qV a x fs;lia
 ·refine k _ _ (hn.turn (o' := .inst cc (kH a x fs)) T F' N' hp (.inr rfl) hd rfl rfl (.inst (dZ hm ?_) (dE hd) (NH.ext (br.rep (X:= []) hn.nd hd rfl rfl)) ?_)) (br.rep hn.nd hd rfl rfl)
  ·intro q
   have iX:(p.2,instObj (c.S.dD cc) p.2)∈ac:=by rw [<-(show p.1=p.2 from q)];rw [<-(show p.1=p.2 from q)] at hm;exact hm
   have:=fc hn.nd iX hd
   cases this
  ·intro q hq
   rcases yU hq with z|⟨q',h',z⟩
   ·rw [z,ok.mM.fld];exact hc.1
   ·rw [<-z];exact hl q' h'
theorem da {K:Type}[DecidableEq K]{knd:KeyKind prog w K}{kvs:List (K×Value)}(h:o.IsDictOf knd kvs):dV o=false/\fA o=false:=by
 refine jX h λes ep hx hd u8=> ?_;clear h
 constructor
 ·unfold dV;rw [hx.1,hd];show ("dict"== "tuple"|| "dict"== "range")=false;decide
 ·unfold fA;rw [hd]
theorem pV {K:Type}[DecidableEq K]{knd:KeyKind prog w K}{o:Obj}{kvs:List (K×Value)}(h:o.IsDictOf knd kvs):(kvs.map (·.1)).Nodup:=h.elim λu8 h=>h.elim λu8 h=>h.2.2.2.2
theorem kJ (hn:aV c m ac ah H s){K:Type}[DecidableEq K]{knd:KeyKind c.prog c.w K}{kvs:List (K×Value)}(hm:(a,o)∈ac)(h:o.IsDictOf knd kvs):s.heap.DictOf knd a kvs:=
 Heap.dictOf_iff.mpr ⟨o,hn.addr hm,h⟩
inductive GZ (c:Cx)(ac:ao)(ah:dN)(s:Shared)(a:Addr)(key:Value)(x:Option SV):Prop
 |mk {K:Type} [inst:DecidableEq K] {knd:KeyKind c.prog c.w K} {kvs:List (K×Value)} {k:K} (low:(a==sysModules)=false) (at_:s.heap.DictOf knd a kvs) (is:knd.is k key=true)
  (val:(x=none/\valueAt kvs k=none)∨∃v r,x=some v/\valueAt kvs k=some r/\av ac ah v r):GZ c ac ah s a key x
theorem jD:(bytesKind prog w).is dm.toList (.bytes dm t)=true:=by
 show isBytes dm.toList (.bytes dm t)=true
 unfold isBytes
 simp
theorem zZ {C:SV->SO->Option (Option SV)->Prop}(bad:∀{k o},C k o none)(zi:∀i,C (.int i) .aM (some none))(zb:∀b,C (.bytes b) .aM (some none))(bb:∀b es,C (.bytes b) (.cg es) (some (fR b es)))(ii:∀i es,C (.int i) (.dB es) (some (fR i es)))(k:SV)(o:SO):C k o (iq k o):=by
 cases o with
 |aM=>cases k with
  |int i=>exact zi i
  |bytes b=>exact zb b
  |_=>exact bad
 |cg es=>cases k with
  |bytes b=>exact bb b es
  |_=>exact bad
 |dB es=>cases k with
  |int i=>exact ii i es
  |_=>exact bad
 |_=>exact bad
theorem sB (hn:aV c m ac ah H s){i:Nat}{p:Nat×Nat}{o:SO}{k:SV}{rk:Value}{x:Option SV}(hp:ah[i]? =some p)(ho:H[i]? =some o)(hk:av ac ah k rk)(e:iq k o=some x):GZ c ac ah s p.1 rk x:=by
 refine zZ (C:=λk o z=>z=some x->OV c.prog c.w c.S ac ah p o->av ac ah k rk->GZ c ac ah s p.1 rk x) (λe=>fh e) (λi e hO hk=> ?_) (λb e hO hk=> ?_) (λb es e hO hk=> ?_) (λi es e hO hk=> ?_) k o e (ov (hn.hr.obj i o p ho hp)) hk
 ·obtain ⟨_,rfl⟩:=aQ hk
  refine mF hO λu8 hm lo hd=> ?_;clear hO
  exact .mk lo (kJ hn hm (hd _ (intKind c.prog c.w))) (intKind_is _ _ _ _) (.inl ⟨(cq e).symm,rfl⟩)
 ·refine uz (bh hk) λu8 u8 de u8=> ?_;subst de
  refine mF hO λu8 hm lo hd=> ?_;clear hO
  exact .mk lo (kJ hn hm (hd _ (bytesKind c.prog c.w))) jD (.inl ⟨(cq e).symm,rfl⟩)
 ·refine jX (bh hk) λu8 u8 de h1 u8=> ?_;subst de
  refine Lo hO λu8 u8 hm lo hd hp u8=> ?_;clear hO
  exact .mk lo (kJ hn hm hd) jD (cq e▸hp.get (pa h1.symm))
 ·obtain ⟨_,rfl⟩:=aQ hk
  refine Lo hO λu8 u8 hm lo hd hp u8=> ?_;clear hO
  exact .mk lo (kJ hn hm hd) (intKind_is _ _ _ _) (cq e▸hp.get λa b e=>by rw [e])
theorem zm {v:SV}{C:SV->SO->Option SO->Prop}(bad:∀{k o},C k o none)(zi:∀i,C (.int i) .aM (some (.dB [(i,v)])))(zb:∀b,C (.bytes b) .aM (some (.cg [(b,v)])))(bb:∀b es,es.length<big->C (.bytes b) (.cg es) (some (.cg (kZ b v es))))(ii:∀i es,es.length<big->C (.int i) (.dB es) (some (.dB (kZ i v es))))(k:SV)(o:SO):C k o (ut k v o):=by
 cases o with
 |aM=>cases k with
  |int i=>exact zi i
  |bytes b=>exact zb b
  |_=>exact bad
 |cg es=>cases k with
  |bytes b=>
   show C _ _ (if es.length<big then some (.cg (kZ b v es)) else none)
   split
   ·exact bb b es ‹_›
   ·exact bad
  |_=>exact bad
 |dB es=>cases k with
  |int i=>
   show C _ _ (if es.length<big then some (.dB (kZ i v es)) else none)
   split
   ·exact ii i es ‹_›
   ·exact bad
  |_=>exact bad
 |_=>exact bad
theorem yO {o k x:SV}{H' :HP}{P:Prop}(e:jO o k x H=some H')(q:∀i d d',o= .ref i->H[i]? =some d->ut k x d=some d'->H' =H.set i d'->P):P:=by
 cases o with
 |ref i=>
  refine A1 (f:=λd=>match ut k x d with|some d=>some (H.set i d)|none=>none) e λd hd e=> ?_
  cases h:ut k x d with
  |none=>rw [h] at e;exact fh e
  |some d' =>rw [h] at e;exact q i d d' rfl hd h (cq e).symm
 |_=>exact fh e
section
variable {i:Nat}{p:Nat×Nat}{rk rx:Value}{Q:Unit->Shared->Prop}{o' :SO}
theorem rW (hn:aV c m ac ah H s)(hp:ah[i]? =some p)(q:∀az s',aV c m az ah (H.set i o') s'->br [] ac ah az ah->Q () s'){K:Type}[DecidableEq K]{knd:KeyKind c.prog c.w K}{kvs:List (K×Value)}{kk:K}(hm:(p.1,a)∈ac)(hd:a.IsDictOf knd kvs)(uy:knd.is kk rk=true)(wU:kvs.length<=sizeLine)
  (hb:∀b:Obj,b.IsDictOf knd (stored kvs kk rx)->br [] ac ah (eN p.1 b ac) ah->i7 c.prog c.w c.S (eN p.1 b ac) ah p o'):wpAny (model c.prog c.w) A (setItem (.ref p.1) rk rx) Q E s:=by
 refine hn.gE λg T F N=> ?_
 refine wpAny_setItem_pairs uy (kJ hn hm hd) (λh' hD hs=> ?_) wU
 refine aZ (Heap.dictOf_iff.mp hD) λb E6 Ri=> ?_
 have z:=N _ hm
 refine xM ((zW (o' :=b) hn.nd hm).split) λpre post e1 e2 a1 a2=> ?_
 have N' :News g c.L h' (eN p.1 b ac):=by rw [e2];rw [e1] at N;exact news_set N a1 a2 hs E6
 have X:=br.rep (X:= []) (ah:=ah) (o' :=b) hn.nd hm (da hd).1 (da hd).2
 exact q _ _ (hn.turn T (F.change hs z.2.1 z.2.2) N' hp (.inl rfl) hm (da hd).1 (da hd).2 (hb b Ri X)) X
theorem L6 (hn:aV c m ac ah H s){o:SO}{k x:SV}(hp:ah[i]? =some p)(hO:H[i]? =some o)(hk:av ac ah k rk)(hx:av ac ah x rx)(e:ut k x o=some o')(q:∀az s',aV c m az ah (H.set i o') s'->br [] ac ah az ah->Q () s'):wpAny (model c.prog c.w) A (setItem (.ref p.1) rk rx) Q E s:=by
 refine zm (v:=x) (C:=λk o z=>z=some o'->OV c.prog c.w c.S ac ah p o->av ac ah k rk->wpAny (model c.prog c.w) A (setItem (.ref p.1) rk rx) Q E s) (λe=>fh e) (λi e hO hk=> ?_) (λb e hO hk=> ?_) (λb es hl e hO hk=> ?_) (λi es hl e hO hk=> ?_) k o e (ov (hn.hr.obj i o p hO hp)) hk
 ·obtain ⟨_,rfl⟩:=aQ hk
  refine mF hO λu8 hm lo hd=> ?_;clear hO
  exact rW hn hp q hm (hd _ (intKind c.prog c.w)) (intKind_is _ _ _ _) (Nat.zero_le _) λb hb X=>cq e▸ .dB (dE hm) lo hb (.cons rfl (hx.ext X) .nil) (by show 1<=4096;decide)
 ·refine jX (bh hk) λu8 u8 de h1 h2=> ?_;subst de
  refine mF hO λu8 hm lo hd=> ?_;clear hO
  exact rW hn hp q hm (hd _ (bytesKind c.prog c.w)) jD (Nat.zero_le _) λb hb X=>cq e▸ .cg (dE hm) lo hb (.cons ⟨h1.symm,h2⟩ (hx.ext X) .nil) (by show 1<=4096;decide)
 ·refine jX (bh hk) λu8 u8 de h1 h2=> ?_;subst de
  refine Lo hO λu8 u8 hm lo hd AP td=> ?_;clear hO
  exact rW hn hp q hm hd jD (by rw [<-AP.length,eT];exact cy td (by unfold big;decide)) λb hb X=>cq e▸ .cg (dE hm) lo hb ((AP.put (pa h1.symm) ⟨h1.symm,h2⟩ hx (pV hd)).ext X) (cy (mm x _) hl)
 ·obtain ⟨_,rfl⟩:=aQ hk
  refine Lo hO λu8 u8 hm lo hd AP td=> ?_;clear hO
  exact rW hn hp q hm hd (intKind_is _ _ _ _) (by rw [<-AP.length,eT];exact cy td (by unfold big;decide)) λb hb X=>cq e▸ .dB (dE hm) lo hb ((AP.put (λa b e=>by rw [e]) rfl hx (pV hd)).ext X) (cy (mm x _) hl)
end
theorem zJ (ok:c.Ok d)(hn:aV c m ac ah H s)(ho:av ac ah o ro)(hk:av ac ah k rk)(hx:av ac ah x rx)(e:jO o k x H=some H')
  (q:∀az s',aV c m az ah H' s'->br [] ac ah az ah->Q () s'):wpAny (model c.prog c.w) A (setItem ro rk rx) Q E s:=by
 refine yO e λi d d' eo hO hd eH=> ?_
 refine aZ (cK eo ho) λp gP hp=> ?_;subst gP
 subst eH
 exact L6 hn hp hO hk hx hd q
theorem EU {P:Prop}(e:y9 k o=some o')(q:∀es b,o= .cg es->k= .bytes b->(fR b es).isSome=true->o' = .cg (qo b es)->P):P:=by
 cases o with
 |cg es=>cases k with
  |bytes b=>
   change (if (fR b es).isSome then some (.cg (qo b es)) else none)=some o' at e
   split at e
   ·exact q es b rfl rfl ‹_› (cq e).symm
   ·exact fh e
  |_=>exact fh e
 |_=>exact fh e
theorem xb {o k:SV}{H' :HP}{P:Prop}(e:iw o k H=some H')(q:∀i d d',o= .ref i->H[i]? =some d->y9 k d=some d'->H' =H.set i d'->P):P:=by
 cases o with
 |ref i=>
  refine A1 (f:=λd=>match y9 k d with|some d=>some (H.set i d)|none=>none) e λd hd e=> ?_
  cases h:y9 k d with
  |none=>rw [h] at e;exact fh e
  |some d' =>rw [h] at e;exact q i d d' rfl hd h (cq e).symm
 |_=>exact fh e
theorem Az (ok:c.Ok d)(hn:aV c m ac ah H s)(ho:av ac ah o ro)(hk:av ac ah k rk)(e:iw o k H=some H')
  (q:∀az s',aV c m az ah H' s'->br [] ac ah az ah->Q () s'):wpAny (model c.prog c.w) A (delItem ro rk) Q E s:=by
 refine xb e λi d d' eo hO Cg eH=>EU Cg λes b ed ek U6 V4=> ?_
 subst eH ed ek V4
 refine aZ (cK eo ho) λp gP hp=> ?_;subst gP
 refine jX (bh hk) λdm t de h1 h2=> ?_;subst de
 refine hn.gE λg T F N=> ?_
 refine Lo (ov (hn.hr.obj i _ p hO hp)) λu8 u8 hm lo hd AP hl=> ?_
 have X:∀b,br [] ac ah (eN p.1 b ac) ah:=λb=>br.rep hn.nd hm (da hd).1 (da hd).2
 refine kob_del F N (rP hn.nd hm) hd jD ?_ (by rw [<-AP.length,eT];exact cy hl (by unfold big;decide)) λh' b F' N' hb=> ?_
 ·rcases AP.get (pa h1.symm) with ⟨z,_⟩|⟨v,r,_,z,_⟩
  ·rw [z] at U6;cases U6
  ·rw [z];rfl
 ·exact q _ _ (hn.turn T F' N' hp (.inl rfl) hm (da hd).1 (da hd).2 (.cg (dE hm) lo hb ((AP.del (pa h1.symm) (pV hd)).ext (X b)) (cy (qT _) hl))) (X b)
end
theorem mG (value:Expr)(b:Array UInt8)(t:Tok)(r:Value):letTemporaryGo value (.bytes b t) r=pure ():=by
 unfold letTemporaryGo
 cases value<;>rfl
theorem ct {h g:Heap}{EQ:List Value}(N:News g L h ac)(hm:(a,listOf EQ.toArray n)∈ac):h.IsList a EQ.toArray:=⟨_,(N _ hm).1,rfl,n,rfl⟩
theorem tC (N:News g L h ac)(hm:(a,jG EQ)∈ac):IsTup h a EQ.toArray:=⟨_,(N _ hm).1,rfl,0,rfl⟩
theorem P3 (h:KBw.bInts dm=b):∀k∈b,0<=k/\k<256:=λk hk=>KBw.ints_in (h▸hk)
section
variable {c:Cx}{d:Nat}{m:Str->Option Value}{ac:ao}{ah:dN}{H:HP}{s:Shared}{A:Around}{E:Value->Shared->Prop}
theorem jm (hn:aV c m ac ah H s){n t:Nat}(T:KtsTurn c.fs c.g₀ g)(F:Fr g c.L h' m)(N:News g c.L h' ((D,listOf rs.toArray n)::ac))(lt:∀q∈ac,q.1<D)(hv:aI ac ah vs rs)(hl:vs.length<=big):
  aV c m ((D,listOf rs.toArray n)::ac) (ah++ [(D,D)]) (H++ [.list vs]) {s with heap:=h',toks:=t}/\br [] ac ah ((D,listOf rs.toArray n)::ac) (ah++ [(D,D)])/\av ((D,listOf rs.toArray n)::ac) (ah++ [(D,D)]) (.ref H.length) (.ref D):=
 have X:br [] ac ah ((D,listOf rs.toArray n)::ac) (ah++ [(D,D)]):=br.app _ _
 ⟨hn.new T F N lt (.list (.head _) (hv.ext X) hl),X,rK hn⟩
theorem l8 (h:cP i n=true): -(n:Int)<=i/\i<n:=by
 unfold cP at h
 simpa using h
theorem HL {α:Type}{x:α}{P:Prop}(e:dz.bad= .ok x H'):P:=nomatch e
theorem oG {α:Type}{v x:α}{P:Prop}(e:dz.ok v H= .ok x H')(k:x=v->H' =H->P):P:=by cases e;exact k rfl rfl
theorem LW {α:Type}{c:Prop}[Decidable c]{v x:α}{P:Prop}(e:(if c then dz.ok v H else .bad)= .ok x H')(k:c->x=v->H' =H->P):P:=by
 split at e
 ·exact oG e (k ‹_›)
 ·exact HL e
theorem U3 {vs:List SV}{P:Prop}(e:(match cP i vs.length,vs[cw i vs.length]? with|true,some v=>dz.ok v H|_,_=> .bad)= .ok x H')(k:cP i vs.length=true->vs[cw i vs.length]? =some x->H' =H->P):P:=by
 cases h:cP i vs.length with
 |false=>rw [h] at e;exact HL e
 |true=>
  rw [h] at e
  cases q:vs[cw i vs.length]? with
  |none=>rw [q] at e;exact HL e
  |some y=>rw [q] at e;exact oG e λa b=>k h (a▸q) b
theorem vz {C:SV->SV->dz SV->Prop}(bad:∀{a b},C a b .bad)(bi:∀b i,C (.bytes b) (.int i) (dH (.bytes b) (.int i) H))(ti:∀vs i,C (.tuple vs) (.int i) (dH (.tuple vs) (.int i) H))
  (li:∀j vs i,H[j]? =some (.list vs)->C (.ref j) (.int i) (match cP i vs.length,vs[cw i vs.length]? with|true,some v=>dz.ok v H|_,_=> .bad)) (dk:∀j o k v,H[j]? =some o->iq k o=some (some v)->C (.ref j) k (.ok v H)) (o i:SV):C o i (dH o i H):=by
 cases o with
 |bytes b=>cases i with
  |int i=>exact bi b i
  |_=>exact bad
 |tuple vs=>cases i with
  |int i=>exact ti vs i
  |_=>exact bad
 |ref j=>
  have D:∀o k,H[j]? =some o->C (.ref j) k (match iq k o with|some (some v)=> .ok v H|_=> .bad):=λo k ho=>by
   cases q:iq k o with
   |none=>exact bad
   |some x=>cases x with
    |none=>exact bad
    |some v=>exact dk j o k v ho q
  show C (.ref j) i (match H[j]? with
   |some (.list vs)=>match i with
    | .int i=>match cP i vs.length,vs[cw i vs.length]? with
     |true,some v=> .ok v H
     |_,_=> .bad
    |_=> .bad
   |some o=>match iq i o with
    |some (some v)=> .ok v H
    |_=> .bad
   |none=> .bad)
  cases hO:H[j]? with
  |none=>exact bad
  |some o=>
   cases o with
   |list vs=>cases i with
    |int i=>exact li j vs i hO
    |_=>exact bad
   |_=>exact D _ i hO
 |_=>exact bad
theorem LC {i:Int}{n m:Nat}(e:n=m)(r1: -(n:Int)<=i)(r2:i<n):seqIndex? i m=some (cw i n):=by
 subst e
 unfold seqIndex? cw
 by_cases h0:0<=i
 ·have h1:¬i<0:=by exact iR ‹_›
  simp [h1,h0,r2]
 ·have h1:i<0:=by lia
  have h2:0<=i+(n:Int):=by lia
  have h3:i+(n:Int)<n:=by lia
  simp [h1,h0,h2,h3]
section
variable {value slice:Expr}{Q:Value->Shared->Prop}
theorem BX (hs:stop slice=false)(hl:(KBw.bInts dm).length<=big)(e:dH (.bytes (KBw.bInts dm)) (.int i) H= .ok x H')(k:∀n t t',x= .int n->H' =H->Q (.int n t) {s with toks:=t' }):
  wpAny (model c.prog c.w) A (subscriptTail value slice (.bytes dm t) (.int i u)) Q E s:=by
 refine LW (show (if cP i (KBw.bInts dm).length=true then dz.ok (SV.int ((KBw.bInts dm).getD (cw i (KBw.bInts dm).length) 0)) H else .bad)= .ok x H' from e) λhr hx hH=> ?_
 obtain ⟨r1,r2⟩:=l8 hr
 have td:(KBw.bInts dm).length<=4096:=hl
 by_cases h0:0<=i
 ·exact KBw.item_K rfl (by exact lA ‹_› rfl) h0 r2 (λt' k' u8 u8=>k _ _ _ (hx.trans (by rw [show cw i (KBw.bInts dm).length=i.toNat from if_pos h0])) hH) ((pl _).sub hs _ _) (mG _ _ _)
 ·exact KBc.itemR_K rfl (by exact lA ‹_› rfl) r1 (by lia) (λt' k' u8 u8=>k _ _ _ (hx.trans (by rw [show cw i (KBw.bInts dm).length=(i+(KBw.bInts dm).length).toNat from if_neg h0])) hH) ((pl _).sub hs _ _) (mG _ _ _)
theorem Jk (hn:aV c m ac ah H s)(hs:stop slice=false){vs:List SV}(hm:(a,jG aC)∈ac)(hv:aI ac ah vs aC)(hl:vs.length<=big)(hr:cP i vs.length=true)(hx:vs[cw i vs.length]? =some x)
  (k:∀rx,av ac ah x rx->Q rx s):wpAny (model c.prog c.w) A (subscriptTail value slice (.ref a) (.int i u)) Q E s:=by
 obtain ⟨r1,r2⟩:=l8 hr
 refine hn.gE λg T F N=> ?_
 refine aZ (hv.at hx) λr Ny sF=> ?_
 have td:vs.length<=4096:=hl
 exact item_tupleT (tC N hm) (j:=cw i vs.length) (by lia) (by lia) (LC hv.length r1 r2) Ny (k _ sF) ((pl _).sub hs _ _)
theorem Ip (hn:aV c m ac ah H s)(hs:stop slice=false)(hm:(a,listOf aC.toArray n)∈ac)(hv:aI ac ah vs aC)(hl:vs.length<=big)(hr:cP i vs.length=true)(hx:vs[cw i vs.length]? =some x)
  (k:∀rx,av ac ah x rx->Q rx s):wpAny (model c.prog c.w) A (subscriptTail value slice (.ref a) (.int i u)) Q E s:=by
 obtain ⟨r1,r2⟩:=l8 hr
 refine hn.gE λg T F N=> ?_
 refine aZ (hv.at hx) λr Ny sF=> ?_
 have hle:vs.length=aC.length:=hv.length
 have td:vs.length<=4096:=hl
 have hL:=ct N hm
 by_cases h0:0<=i
 ·rw [show cw i vs.length=i.toNat from if_pos h0] at Ny
  exact tail_any hL.typeIs slot_list_getitem.lookup (wpAny_getItem_list hL h0 (by lia) (by simpa using Ny) (k _ sF)) ((pl _).sub hs _ _)
 ·rw [show cw i vs.length=(i+vs.length).toNat from if_neg h0,hle] at Ny
  exact tail_any hL.typeIs slot_list_getitem.lookup (wpAny_getItem_list_neg hL (by lia) (by simp;lia) (by lia) (by simpa using Ny) (k _ sF)) ((pl _).sub hs _ _)
theorem IP (hn:aV c m ac ah H s)(hs:stop slice=false){j:Nat}{p:Nat×Nat}{o:SO}{i x:SV}{ri:Value}(hp:ah[j]? =some p)(hO:H[j]? =some o)(hi:av ac ah i ri)(hx:iq i o=some (some x))
  (k:∀rx t,av ac ah x rx->Q rx {s with toks:=t}):wpAny (model c.prog c.w) A (subscriptTail value slice (.ref p.1) ri) Q E s:=by
 obtain ⟨lo,FX,Nd,Gj⟩:=sB hn hp hO hi hx
 rcases Gj with ⟨z,_⟩|⟨v,r,z1,z2,z3⟩
 ·exact GG z
 ·cases z1
  exact tail_any FX.typeIs slot_dict_getitem.lookup (wpAny_getItem_of Nd FX.mapOf z2 (k _ _ z3)) ((pl _).sub hs _ _)
end
theorem Em (ok:c.Ok d)(hn:aV c m ac ah H s){value slice:Expr}(hs:stop slice=false){o i x:SV}{ro ri:Value}{H' :HP}{Q:Value->Shared->Prop}(ho:av ac ah o ro)(hi:av ac ah i ri)(e:dH o i H= .ok x H')
  (k:∀rx t,av ac ah x rx->H' =H->Q rx {s with toks:=t}):wpAny (model c.prog c.w) A (subscriptTail value slice ro ri) Q E s:=by
 refine vz (C:=λo i z=>z= .ok x H'->av ac ah o ro->av ac ah i ri->wpAny (model c.prog c.w) A (subscriptTail value slice ro ri) Q E s) (λe=>HL e) (λb i e ho hi=> ?_) (λvs i e ho hi=> ?_) (λj vs i hO e ho hi=> ?_) (λj o k' v hO hx e ho hi=> ?_) o i e ho hi
 ·refine jX (bh ho) λdm t de wN h2=> ?_;subst de;subst wN
  obtain ⟨u,rfl⟩:=aQ hi
  exact BX hs h2 e λn t t' hx hH=>k _ _ (hx▸ .int _ _) hH
 ·refine xM (cT ho) λaC a de h1 h2 h3=> ?_;subst de
  obtain ⟨u,rfl⟩:=aQ hi
  exact U3 e λhr hx hH=>Jk hn hs h1 h2 h3 hr hx λrx v=>k rx s.toks v hH
 ·refine aZ (cK rfl ho) λp gP hp=> ?_;subst gP
  obtain ⟨u,rfl⟩:=aQ hi
  refine jX (gp (hn.hr.obj j _ p hO hp)) λaC n h1 h2 h3=> ?_
  exact U3 e λhr hx hH=>Ip hn hs h1 h2 h3 hr hx λrx v=>k rx s.toks v hH
 ·refine aZ (cK rfl ho) λp gP hp=> ?_;subst gP
  exact oG e λhv hH=>IP hn hs hp hO hi hx λrx t w=>k rx t (hv▸w) hH
theorem uc {a b:Int}(h:0<b):a.fdiv b=a/b:=Int.fdiv_eq_ediv_of_nonneg a (by exact Int.le_of_lt ‹_›)
theorem wY {a b:Int}(h:0<b):a.fmod b=a%b:=Int.fmod_eq_emod_of_nonneg a (by exact Int.le_of_lt ‹_›)
noncomputable def lI:wm->Operator
 | .add=> .Add| .sub=> .Sub| .mul=> .Mult| .fdiv=> .FloorDiv| .mod=> .Mod| .band=> .BitAnd| .bor=> .BitOr| .shl=> .LShift| .shr=> .RShift
theorem pow_pos (n:Nat):(0:Int)<2^n:=Int.pow_pos (by decide)
theorem u4 {C:wm->SV->SV->dz SV->Prop}(bad:∀{op a b},C op a b .bad)(ii:∀op i j,C op (.int i) (.int j) (cE op (.int i) (.int j) H))(bb:∀x y,C .add (.bytes x) (.bytes y) (if x.length+y.length<=big then .ok (.bytes (x++y)) H else .bad))
  (rr:∀i j x y,H[i]? =some (.list x)->H[j]? =some (.list y)->C .add (.ref i) (.ref j) (if x.length+y.length<=big then .ok (.ref H.length) (H++ [.list (x++y)]) else .bad)) (op:wm) (a b:SV):C op a b (cE op a b H):=by
 cases a with
 |int i=>cases b with
  |int j=>exact ii op i j
  |_=>exact bad
 |bytes x=>cases b with
  |bytes y=>cases op with
   |add=>exact bb x y
   |_=>exact bad
  |_=>exact bad
 |ref i=>cases b with
  |ref j=>cases op with
   |add=>
    show C .add (.ref i) (.ref j) (match wm.add,H[i]?,H[j]? with
     | .add,some (.list a),some (.list b)=>if a.length+b.length<=big then .ok (.ref H.length) (H++ [.list (a++b)]) else .bad
     |_,_,_=> .bad)
    cases q1:H[i]? with
    |none=>exact bad
    |some o1=>cases o1 with
     |list x=>cases q2:H[j]? with
      |none=>exact bad
      |some o2=>cases o2 with
       |list y=>exact rr i j x y q1 q2
       |_=>exact bad
     |_=>exact bad
   |_=>exact bad
  |_=>exact bad
 |_=>exact bad
theorem E1 (e:cE op (.int i) (.int j) H= .ok x H')(k:∀n t t',x= .int n->H' =H->Q (.int n t) {s with toks:=t' }):wpAny (model c.prog c.w) A (binaryOp (lI op) (.int i t) (.int j u)) Q E s:=by
 cases op with
 |add=>exact oG e λa b=>PyProof.Rows.add_int (k _ _ _ a b)
 |sub=>exact oG e λa b=>PyProof.Rows.sub_int (k _ _ _ a b)
 |mul=>exact LW e λhz a b=>PyProof.Rows.mul_int (k _ _ _ a b) (IntMulOk.of_left (intBits_le_64 (by lia) (by lia)))
 |fdiv=>exact LW e λhz a b=>PyProof.Rows.floordiv_int (by lia) (by rw [uc hz.1];exact k _ _ _ a b) (.inl (PyProof.noPylong_small (by lia)))
 |mod=>exact LW e λhz a b=>PyProof.Rows.mod_int' (by lia) (by rw [wY hz.1];exact k _ _ _ a b)
 |band=>exact oG e λa b=>PyProof.Rows.and_int (k _ _ _ a b)
 |bor=>exact oG e λa b=>PyProof.Rows.or_int (k _ _ _ a b)
 |shl=>exact LW e λhz a b=>PyProof.Rows.lshift_int_small hz.1 (by lia) (by lia) (k _ _ _ a b)
 |shr=>exact LW e λhz a b=>PyProof.Rows.rshift_int hz.1 (by rw [uc (pow_pos _)];exact k _ _ _ a b)
theorem BV (hn:aV c m ac ah H s){i j:Nat}{p q:Nat×Nat}{vs ws:List SV}{Q:Value->Shared->Prop}(hi:H[i]? =some (.list vs))(hj:H[j]? =some (.list ws))(hp:ah[i]? =some p)(hq:ah[j]? =some q)(hz:vs.length+ws.length<=big)
  (k:∀az bM s' rx,aV c m az bM (H++ [.list (vs++ws)]) s'->br [] ac ah az bM->av az bM (.ref H.length) rx->Q rx s'):wpAny (model c.prog c.w) A (binaryOp .Add (.ref p.1) (.ref q.1)) Q E s:=by
 refine jX (gp (hn.hr.obj i _ p hi hp)) λEz n1 hm hv hl=> ?_
 refine jX (gp (hn.hr.obj j _ q hj hq)) λKj n2 iX sF td=> ?_
 have UZ:vs.length+ws.length<=4096:=hz
 refine hn.gE λg T F N=> ?_
 refine PyProof.Rows.add_lists F N (ct N hm) (ct N iX) (λh' F' N' => ?_) (by rw [<-hv.length,<-sF.length,eT];exact lA ‹_› rfl)
 obtain ⟨a1,a2,a3⟩:=jm (t:=s.toks) (n:=0) hn T F' N' hn.lt (hv.append sF) (by rw [aL];exact hz)
 exact k _ _ _ _ a1 a2 a3
theorem Ey (ok:c.Ok d)(hn:aV c m ac ah H s){op:wm}{a b x:SV}{ra rb:Value}{H' :HP}{Q:Value->Shared->Prop}(ha:av ac ah a ra)(hb:av ac ah b rb)(e:cE op a b H= .ok x H')
  (k:∀az bM s' rx,aV c m az bM H' s'->br [] ac ah az bM->av az bM x rx->Q rx s'):wpAny (model c.prog c.w) A (binaryOp (lI op) ra rb) Q E s:=by
 refine u4 (C:=λop a b z=>z= .ok x H'->av ac ah a ra->av ac ah b rb->wpAny (model c.prog c.w) A (binaryOp (lI op) ra rb) Q E s) (λe=>HL e) (λop i j e ha hb=> ?_) (λx' y e ha hb=> ?_) (λi j x' y hi hj e ha hb=> ?_) op a b e ha hb
 ·obtain ⟨t,rfl⟩:=aQ ha
  obtain ⟨u,rfl⟩:=aQ hb
  exact E1 e λn t t' hx hH=>by subst hx hH;exact k _ _ _ _ (hn.toks t') br.refl (.int n t)
 ·refine jX (bh ha) λdm t de h1 u8=> ?_;subst de
  refine jX (bh hb) λOx t' de gf u8=> ?_;subst de
  refine LW e λhz hx hH=> ?_
  subst hx hH
  have UZ:x'.length+y.length<=4096:=hz
  exact KBa.add_K h1.symm gf.symm (by exact lA ‹_› rfl) λXc k' hb=>k _ _ _ _ (hn.toks k') br.refl (.bytes _ _ hb (by rw [aL];exact hz))
 ·refine aZ (cK rfl ha) λp gP hp=> ?_;subst gP
  refine aZ (cK rfl hb) λq gP hq=> ?_;subst gP
  unfold big at e
  by_cases hz:x'.length+y.length<=big
  ·refine oG ((if_pos hz).symm.trans e) λhx hH=> ?_
   subst hx hH
   exact BV hn hi hj hp hq hz k
  ·exact HL ((if_neg hz).symm.trans e)
end
end Mine
namespace Mine
open PySem PySem.W PySem.Calls PyProof.Rows PySem.Spec PySem.SeqAt
theorem jB:Slot "bytes" (cmpInfo .Eq).2.2 "bytes.__eq__":=FB.slot_bytes_eq
theorem jr:Slot "bytes" (cmpInfo .NotEq).2.2 "bytes.__ne__":=FB.slot_bytes_ne
theorem eK:isSubtype (.type "NoneType") (.type "bytes")=pure false:=by rw [isSubtype_type];kernel_rfl
theorem jt:isSubtype (.type "bytes") (.type "NoneType")=pure false:=by rw [isSubtype_type];kernel_rfl
theorem nK (a:Array UInt8)(t:Tok):Gives (Builtin.«NoneType.__eq__» ⟨[.none, .bytes a t], []⟩) (.val (Value.notImplemented)):=
 .of_wp λM A E s Q h=>by obtain ⟨hp,g,d,tk,os⟩:=s;wp_walk;exact ⟨_,rfl,h⟩
theorem nS (a:Array UInt8)(t:Tok):Gives (Builtin.«NoneType.__ne__» ⟨[.none, .bytes a t], []⟩) (.val (Value.notImplemented)):=
 .of_wp λM A E s Q h=>by obtain ⟨hp,g,d,tk,os⟩:=s;wp_walk;exact ⟨_,rfl,h⟩
theorem nx (a:Array UInt8)(t:Tok):Gives (Builtin.«bytes.__eq__» ⟨[.bytes a t, .none], []⟩) (.val (Value.notImplemented)):=by
 refine .of_wp λM A E s Q hq=> ?_
 show wpAny M A (isInstance .none (.type "bytes")>>=λr=>_) _ E s
 refine ar (wpAny_isInstance (T:= "NoneType") rfl eK ?_)
 show wpAny M A (rule _>>=λu8=>ret .notImplemented) _ E s
 exact ar (wpAny_rule (bu ⟨_,rfl,hq⟩))
theorem nJ (a:Array UInt8)(t:Tok):Gives (Builtin.«bytes.__ne__» ⟨[.bytes a t, .none], []⟩) (.val (Value.notImplemented)):=by
 refine .of_wp λM A E s Q hq=> ?_
 show wpAny M A (isInstance .none (.type "bytes")>>=λr=>_) _ E s
 refine ar (wpAny_isInstance (T:= "NoneType") rfl eK ?_)
 show wpAny M A (rule _>>=λu8=>ret .notImplemented) _ E s
 exact ar (wpAny_rule (bu ⟨_,rfl,hq⟩))
section
variable {A:Around}{s:Shared}
theorem RcAt.gY (b:Array UInt8)(u:Tok):RcAt A s .none (.bytes b u) false:=λprog w E Q h=>
 rc_eq_decline_or (k:=false) rfl (dT s b u) (by decide) jt F.slot_NoneType_eq jB
  (λu8 hq=>call_gives F.slot_NoneType_eq rfl F.entry_NoneType_eq (F.args_NoneType_eq_2 _ _) (nK b u) hq)
  (λu8 hq=>call_gives jB (dT s b u) FB.entry_bytes_eq (FB.args_bytes_eq_2 _ _) (nx b u) hq)
  (λu8 hq=>db (rfl:isSame .none (.bytes b u)=pure false) hq) (.inl rfl) h
theorem RcAt.gV (b:Array UInt8)(u:Tok):RcAt A s (.bytes b u) .none false:=λprog w E Q h=>
 rc_eq_decline_or (k:=false) (dT s b u) rfl (by decide) eK FB.slot_bytes_eq F.slot_NoneType_eq_refl
  (λu8 hq=>call_gives FB.slot_bytes_eq (dT s b u) FB.entry_bytes_eq (FB.args_bytes_eq_2 _ _) (nx b u) hq)
  (λu8 hq=>call_gives F.slot_NoneType_eq_refl rfl F.entry_NoneType_eq (F.args_NoneType_eq_2 _ _) (nK b u) hq)
  (λu8 hq=>db (rfl:isSame (.bytes b u) .none=pure false) hq) (.inl rfl) h
theorem RcNeAt.gY (b:Array UInt8)(u:Tok):RcNeAt A s .none (.bytes b u) true:=λprog w E Q h=>
 rc_ne_decline_or (k:=false) rfl (dT s b u) (by decide) jt F.slot_NoneType_ne jr
  (λu8 hq=>call_gives F.slot_NoneType_ne rfl F.entry_NoneType_ne (F.args_NoneType_ne_2 _ _) (nS b u) hq)
  (λu8 hq=>call_gives jr (dT s b u) FB.entry_bytes_ne (FB.args_bytes_ne_2 _ _) (nJ b u) hq)
  (λu8 hq=>db (rfl:isSame .none (.bytes b u)=pure false) hq) (.inl rfl) h
theorem RcNeAt.gV (b:Array UInt8)(u:Tok):RcNeAt A s (.bytes b u) .none true:=λprog w E Q h=>
 rc_ne_decline_or (k:=false) (dT s b u) rfl (by decide) eK FB.slot_bytes_ne F.slot_NoneType_ne_refl
  (λu8 hq=>call_gives FB.slot_bytes_ne (dT s b u) FB.entry_bytes_ne (FB.args_bytes_ne_2 _ _) (nJ b u) hq)
  (λu8 hq=>call_gives F.slot_NoneType_ne_refl rfl F.entry_NoneType_ne (F.args_NoneType_ne_2 _ _) (nS b u) hq)
  (λu8 hq=>db (rfl:isSame (.bytes b u) .none=pure false) hq) (.inl rfl) h
theorem EqAt.gY (b:Array UInt8)(u:Tok):EqAt A s .none (.bytes b u) false:=λprog w E Q h=>by
 unfold eqBool
 refine wpAny_holding ?_
 refine wpAny_ite_split (λKr=>nomatch Kr) (λu8=> ?_)
 exact ar (RcAt.gY b u prog w E _ (wpAny_truthy_bool h))
theorem EqAt.gV (b:Array UInt8)(u:Tok):EqAt A s (.bytes b u) .none false:=λprog w E Q h=>by
 unfold eqBool
 refine wpAny_holding ?_
 refine wpAny_ite_split (λKr=>nomatch Kr) (λu8=> ?_)
 exact ar (RcAt.gV b u prog w E _ (wpAny_truthy_bool h))
theorem Lp (h1:KBw.bInts a=x)(h2:KBw.bInts b=y):(a.toList==b.toList)=(x==y):=by
 rw [Bool.eq_iff_iff]
 constructor
 ·intro h
  have:a=b:=by
   have:=eq_of_beq h
   exact Array.toList_inj.mp this
  subst this
  rw [<-h1,<-h2];exact iV _
 ·intro h
  have:=eq_of_beq h
  rw [vB ((h1.trans this).trans h2.symm)]
  exact iV _
theorem j7 (N:News g L h ac)(hm:(a,jG EQ)∈ac):h.IsTuple a EQ.toArray:=⟨_,(N _ hm).1,rfl,0,rfl⟩
theorem yY {P:Prop}(h:uA f (x::xs) (y::ys)=some b)(k:∀a b',f x y=some a->uA f xs ys=some b'->b=(a&&b')->P):P:=by
 change (match f x y,uA f xs ys with|some a,some b=>some (a&&b)|_,_=>none)=some b at h
 cases h1:f x y with
 |none=>rw [h1] at h;exact fh h
 |some a=>
  cases h2:uA f xs ys with
  |none=>rw [h1,h2] at h;exact fh h
  |some b' =>rw [h1,h2] at h;exact k a b' h1 h2 (cq h).symm
theorem Bk:∀{ys:List SV} {b:Bool},uA f xs ys=some b->
  ∃e:Nat->Bool,(∀j x y,xs[j]? =some x->ys[j]? =some y->f x y=some (e j))/\b=((List.range (min xs.length ys.length)).all e&&xs.length==ys.length):=by
 induction xs with
 |nil=>
  intro ys b h
  cases ys with
  |nil=>exact ⟨λu8=>true,λj x y h=>fh h,(cq h).symm⟩
  |cons y ys=>exact ⟨λu8=>true,λj x y h=>fh h,(cq h).symm.trans (by simp)⟩
 |cons x xs ih=>
  intro ys b h
  cases ys with
  |nil=>exact ⟨λu8=>true,λj x y u8 h=>fh h,(cq h).symm.trans (by simp)⟩
  |cons y ys=>
   refine yY h λa b' h1 h2 hb=> ?_
   refine aZ (ih h2) λe he Ls=> ?_
   refine ⟨λj=>match j with|0=>a|j+1=>e j,λj=> ?_, ?_⟩
   ·cases j with
    |zero=>exact λp q hp hq=>cq hp▸cq hq▸h1
    |succ j=>exact he j
   ·rw [hb,Ls,dq,dq,Nat.succ_min_succ,List.range_succ_eq_map,List.all_cons,List.all_map,show (xs.length+1==ys.length+1)=(xs.length==ys.length) from by rw [Bool.eq_iff_iff];simp,Bool.and_assoc]
    rfl
theorem yD (hf:∀x y r b,av ac ah x r->av ac ah y r->f x y=some b->b=true):
  ∀{xs ys:List SV} {b:Bool},aI ac ah xs rs->aI ac ah ys rs->uA f xs ys=some b->b=true:=by
 induction rs with
 |nil=>
  intro xs ys b h1 h2 h
  cases h1
  cases h2
  exact (cq h).symm
 |cons r rs ih=>
  intro xs ys b h1 h2 h
  cases h1 with|cons h1 t1=>
  cases h2 with|cons h2 t2=>
  refine yY h λa b' e1 e2 hb=> ?_
  rw [hb,hf _ _ _ _ h1 h2 e1,ih t1 t2 e2];rfl
theorem uZ {n:Nat}{C:SV->SV->Option Bool->Prop}(bad:∀{a b},C a b none)(nn:C .none .none (some true))(nb:∀x,C .none (.bytes x) (some false))(bn:∀x,C (.bytes x) .none (some false))(nt:∀x,C .none (.tuple x) (some false))(tn:∀x,C (.tuple x) .none (some false))
  (oo:∀a b,C (.bool a) (.bool b) (some (a==b))) (ii:∀a b,C (.int a) (.int b) (some (a==b))) (bb:∀a b,C (.bytes a) (.bytes b) (some (a==b))) (tt:∀a b,C (.tuple a) (.tuple b) (uA (ud n) a b)) (a b:SV):C a b (ud (n+1) a b):=by
 cases a with
 |none=>cases b with
  |none=>exact nn
  |bytes x=>exact nb x
  |tuple x=>exact nt x
  |_=>exact bad
 |bool a=>cases b with
  |bool b=>exact oo a b
  |_=>exact bad
 |int a=>cases b with
  |int b=>exact ii a b
  |_=>exact bad
 |bytes a=>cases b with
  |none=>exact bn a
  |bytes b=>exact bb a b
  |_=>exact bad
 |tuple a=>cases b with
  |none=>exact tn a
  |tuple b=>exact tt a b
  |_=>exact bad
 |_=>exact bad
theorem Bw {ac:ao}(nd:(ac.map (·.1)).Nodup)(h1:(a,jG i)∈ac)(h2:(a,jG j)∈ac):i=j:=by
 have e:=congrArg Obj.data (fc nd h1 h2)
 injection e with e
 exact congrArg Array.toList e
theorem G6 {ac:ao}(nd:(ac.map (·.1)).Nodup)(n:Nat):∀x y r b,av ac ah x r->av ac ah y r->ud n x y=some b->b=true:=by
 induction n with
 |zero=>exact λu8 u8 u8 u8 u8 u8 h=>fh h
 |succ n ih=>
  intro x y
  refine uZ (C:=λx y o=>∀r b,av ac ah x r->av ac ah y r->o=some b->b=true) (λu8 u8 u8 u8 h=>fh h) (λu8 u8 u8 u8 h=>(cq h).symm) (λx r b h1 h2 u8=> ?_) (λx r b h2 h1 u8=> ?_) (λx r b h1 h2 u8=> ?_) (λx r b h2 h1 u8=> ?_)
   (λx y r b h1 h2 h=> ?_) (λx y r b h1 h2 h=> ?_) (λx y r b h1 h2 h=> ?_) (λx y r b h1 h2 h=> ?_) x y
  ·refine uz (bh h2) λu8 u8 q u8=> ?_
   exact nomatch (dX h1).symm.trans q
  ·refine uz (bh h2) λu8 u8 q u8=> ?_
   exact nomatch (dX h1).symm.trans q
  ·refine uz (cT h2) λu8 u8 q u8=> ?_
   exact nomatch (dX h1).symm.trans q
  ·refine uz (cT h2) λu8 u8 q u8=> ?_
   exact nomatch (dX h1).symm.trans q
  ·have:=(kD h1).symm.trans (kD h2)
   rw [<-cq h]
   injection this with q
   rw [q];exact iV _
  ·obtain ⟨_,q⟩:=aQ h1
   obtain ⟨_,q2⟩:=aQ h2
   have:=q.symm.trans q2
   rw [<-cq h]
   injection this with q
   rw [q];exact iV _
  ·refine jX (bh h1) λu8 u8 q q1 u8=> ?_
   refine jX (bh h2) λu8 u8 q2 q3 u8=> ?_
   have:=q.symm.trans q2
   rw [<-cq h,q1,q3]
   injection this with q
   rw [q];exact iV _
  ·refine xM (cT h1) λu8 u8 q hm hv u8=> ?_
   refine xM (cT h2) λu8 u8 q2 iX sF u8=> ?_
   have:=q.symm.trans q2
   injection this with q
   subst q
   rw [Bw nd hm iX] at hv
   exact yD ih hv sF h
theorem F7 {f:SV->SV->Option Bool}{ac:ao}{ah:dN}{xs ys:List SV}{rs ts:List Value}{e:Nat->Bool}{A:Around}(hx:aI ac ah xs rs)(hy:aI ac ah ys ts)
  (he:∀j x y,xs[j]? =some x->ys[j]? =some y->f x y=some (e j)) (hf:∀x y r t b,av ac ah x r->av ac ah y t->f x y=some b->EqAt A s r t b):
  ∀j (h1:j<rs.toArray.size) (h2:j<ts.toArray.size),EqAt A s rs.toArray[j] ts.toArray[j] (e j):=λj h1 h2=>by
 have gf:j<xs.length:=by rw [hx.length];exact h1
 have ka:j<ys.length:=by rw [hy.length];exact h2
 refine aZ (hx.at (eW gf)) λr a1 a2=> ?_
 refine aZ (hy.at (eW ka)) λt b1 b2=> ?_
 have z1:rs.toArray[j]=r:=by
  have:=eW (l:=rs) (i:=j) h1
  rw [a1] at this
  simpa using (cq this).symm
 have z2:ts.toArray[j]=t:=by
  have:=eW (l:=ts) (i:=j) h2
  rw [b1] at this
  simpa using (cq this).symm
 rw [z1,z2]
 exact hf _ _ _ _ _ a2 b2 (he j _ _ (eW gf) (eW ka))
end
section
variable {c:Cx}{d:Nat}{m:Str->Option Value}{ac:ao}{ah:dN}{H:HP}{s:Shared}{E:Value->Shared->Prop}
structure Nr (A:Around)(s:Shared)(r t:Value)(b:Bool):Prop where
 e:EqAt A s r t b
 q:RcAt A s r t b
 n:RcNeAt A s r t (!b)
theorem BZ (h:(x.toList==y.toList)=b):Nr A s (.bytes x t) (.bytes y u) b:=by
 subst h
 refine ⟨λprog w E Q hq=>PySem.W.eqBool_bytes ?_,λprog w E Q hq=>PySem.W.eq_bytes hq,λprog w E Q hq=>PySem.W.ne_bytes hq⟩
 rw [show (x.toList==y.toList)=decide (x.toList=y.toList) by rw [Bool.eq_iff_iff];simp] at hq
 exact hq
theorem Jg (hn:aV c m ac ah H s){n:Nat}{A:Around}(hu:A.units<cLine){x y:List SV}{ix iy:List Value}{a b:Addr}{v:Bool}(hm:(a,jG ix)∈ac)(hv:aI ac ah x ix)(hl:x.length<=big)(iX:(b,jG iy)∈ac)(sF:aI ac ah y iy)(td:y.length<=big)
  (he:∀x y r t b,av ac ah x r->av ac ah y t->ud n x y=some b->EqAt A.in1 s r t b) (h:uA (ud n) x y=some v):Nr A s (.ref a) (.ref b) v:=by
 refine hn.gE λg u8 u8 N=> ?_
 refine aZ (Bk h) λe h1 hb=> ?_
 have z:=F7 hv sF h1 he
 have t1:=RcAt.tuples (e:=e) (j7 N hm) (j7 N iX) hu z
 have t2:=RcNeAt.tuples (e:=e) (j7 N hm) (j7 N iX) hu z
 rw [List.size_toArray,List.size_toArray,<-hv.length,<-sF.length,<-hb] at t1 t2
 refine ⟨?_,t1,t2⟩
 by_cases q:a=b
 ·subst q
  rw [Bw hn.nd hm iX] at hv
  rw [yD (G6 hn.nd n) hv sF h];exact EqAt.same _
 ·exact EqAt.of_refs q t1
theorem Kq (hn:aV c m ac ah H s)(n:Nat):∀(A:Around),A.units+n<9900->∀x y r t b,av ac ah x r->av ac ah y t->ud n x y=some b->Nr A s r t b:=by
 induction n with
 |zero=>exact λu8 u8 u8 u8 u8 u8 u8 u8 u8 h=>fh h
 |succ n ih=>
  intro A hu x y
  have DF:A.units<cLine:=by show _<9900;lia
  refine hn.gE λg u8 u8 N=> ?_
  have T:∀{r t:Value} {a b:Bool},some a=some b->Nr A s r t a->Nr A s r t b:=λe h=>cq e▸h
  refine uZ (C:=λx y o=>∀r t b,av ac ah x r->av ac ah y t->o=some b->Nr A s r t b) (λu8 u8 u8 u8 u8 h=>fh h) (λr t b h1 h2 h=> ?_) (λx r t b h1 h2 h=> ?_) (λx r t b h1 h2 h=> ?_) (λx r t b h1 h2 h=> ?_) (λx r t b h1 h2 h=> ?_)
   (λx y r t b h1 h2 h=> ?_) (λx y r t b h1 h2 h=> ?_) (λx y r t b h1 h2 h=> ?_) (λx y r t b h1 h2 h=> ?_) x y
  ·rw [dX h1,dX h2]
   exact T h ⟨EqAt.same _,RcAt.none_none,RcNeAt.none_none⟩
  ·refine uz (bh h2) λu8 u8 de u8=> ?_;subst de
   rw [dX h1]
   exact T h ⟨EqAt.gY _ _,RcAt.gY _ _,RcNeAt.gY _ _⟩
  ·refine uz (bh h1) λu8 u8 de u8=> ?_;subst de
   rw [dX h2]
   exact T h ⟨EqAt.gV _ _,RcAt.gV _ _,RcNeAt.gV _ _⟩
  ·refine jX (cT h2) λu8 u8 de hm u8=> ?_;subst de
   rw [dX h1]
   exact T h ⟨EqAt.none_tuple (j7 N hm) DF,RcAt.none_tuple (j7 N hm) DF,RcNeAt.none_tuple (j7 N hm) DF⟩
  ·refine jX (cT h1) λu8 u8 de hm u8=> ?_;subst de
   rw [dX h2]
   exact T h ⟨EqAt.tuple_none (j7 N hm) DF,RcAt.tuple_none (j7 N hm) DF,RcNeAt.tuple_none (j7 N hm) DF⟩
  ·rw [kD h1,kD h2]
   exact T h ⟨EqAt.bool_bool _ _,RcAt.bool_bool _ _,RcNeAt.bool_bool _ _⟩
  ·obtain ⟨_,rfl⟩:=aQ h1
   obtain ⟨_,rfl⟩:=aQ h2
   exact T h ⟨EqAt.int_int _ _ _ _,RcAt.int_int _ _ _ _,RcNeAt.int_int _ _ _ _⟩
  ·refine jX (bh h1) λu8 u8 de q1 u8=> ?_;subst de
   refine jX (bh h2) λu8 u8 de q2 u8=> ?_;subst de
   exact T h (BZ (Lp q1.symm q2.symm))
  ·refine xM (cT h1) λu8 u8 de a1 a2 a3=> ?_;subst de
   refine xM (cT h2) λu8 u8 de b1 b2 b3=> ?_;subst de
   exact Jg hn DF a1 a2 a3 b1 b2 b3 (λx y r t b h1 h2 h3=>(ih A.in1 (by show A.units+1+n<_;lia) x y r t b h1 h2 h3).e) h
theorem Tt (hn:aV c m ac ah H s)(n:Nat)(A:Around)(hu:A.units+n<9900)(x y:SV)(r t:Value)(b:Bool)(hx:av ac ah x r)(hy:av ac ah y t)(h:ud n x y=some b):EqAt A s r t b:=(Kq hn n A hu x y r t b hx hy h).e
theorem RZ (hn:aV c m ac ah H s){n:Nat}(hu:A.units+n<9900)(hx:av ac ah x r)(hy:av ac ah y t)(h:ud n x y=some b):RcAt A s r t b/\RcNeAt A s r t (!b):=
 have z:=Kq hn n A hu x y r t b hx hy h
 ⟨z.q,z.n⟩
end
theorem sf:∀(a b:List UInt8),Builtin.Bytes.holds "__lt__" (Builtin.Bytes.order a b)=ig (a.map λc=>(c.toNat:Int)) (b.map λc=>(c.toNat:Int))
 | [], []=>rfl
 | [],_::_=>rfl
 |_::_, []=>rfl
 |x::a,y::b=>by
  have ih:=sf a b
  show Builtin.Bytes.holds "__lt__" (Builtin.Bytes.order (x::a) (y::b))=if ((x.toNat:Int)<(y.toNat:Int)) then true else if (x.toNat:Int)=(y.toNat:Int) then ig (a.map _) (b.map _) else false
  simp only [Builtin.Bytes.order]
  by_cases h1:x<y
  ·have:(x.toNat:Int)<y.toNat:=by have:=UInt8.lt_iff_toNat_lt.mp h1;exact Int.ofNat_lt.mpr ‹_›
   rw [if_pos h1,if_pos this];rfl
  ·have n1:¬(x.toNat:Int)<y.toNat:=λh=>h1 (UInt8.lt_iff_toNat_lt.mpr (by lia))
   rw [if_neg h1,if_neg n1]
   by_cases h2:x>y
   ·have:¬(x.toNat:Int)=y.toNat:=by have:=UInt8.lt_iff_toNat_lt.mp h2;lia
    rw [if_pos h2,if_neg this];rfl
   ·have:x.toNat=y.toNat:=by
     have a1:¬x.toNat<y.toNat:=λh=>h1 (UInt8.lt_iff_toNat_lt.mpr h)
     have a2:¬y.toNat<x.toNat:=λh=>h2 (UInt8.lt_iff_toNat_lt.mpr h)
     lia
    rw [if_neg h2,if_pos (by lia),ih]
theorem G8 (o:Ordering):Builtin.Bytes.holds "__ge__" o= !Builtin.Bytes.holds "__lt__" o:=by cases o<;>rfl
theorem mh (b c:Array UInt8)(t u:Tok):Gives (Builtin.«bytes.__lt__» ⟨[.bytes b t, .bytes c u], []⟩) (.val (.bool (ig (KBw.bInts b) (KBw.bInts c)))):=by
 refine .of_wp λM A E s Q hq=> ?_
 show wpAny M A (isInstance (.bytes c u) (.type "bytes")>>=λr=>_) _ E s
 refine ar (wpAny_isInstance (dT s c u) F.sub_bytes_bytes ?_)
 rw [KBw.ints_list,KBw.ints_list] at hq
 exact bu ⟨_,rfl,by rw [<-sf] at hq;exact hq⟩
theorem t6 (b c:Array UInt8)(t u:Tok):Gives (Builtin.«bytes.__ge__» ⟨[.bytes b t, .bytes c u], []⟩) (.val (.bool (!ig (KBw.bInts b) (KBw.bInts c)))):=by
 refine .of_wp λM A E s Q hq=> ?_
 show wpAny M A (isInstance (.bytes c u) (.type "bytes")>>=λr=>_) _ E s
 refine ar (wpAny_isInstance (dT s c u) F.sub_bytes_bytes ?_)
 rw [KBw.ints_list,KBw.ints_list] at hq
 exact bu ⟨_,rfl,by rw [<-sf,<-G8] at hq;exact hq⟩
theorem j1:Slot "bytes" (cmpInfo .Lt).2.1 "bytes.__lt__":=
 .of (owner:= "bytes") (n:= "__lt__") (by rw [gS,gQ];kernel_rfl) (by decide+kernel) (by decide+kernel) (by decide+kernel)
  (by first|exact .inl (by decide+kernel)|exact .inr (by decide+kernel)) (by rw [isSubtype_type];kernel_rfl)
theorem mt:entryFor table "bytes.__lt__"=some Builtin.«bytes.__lt__»:=entryFor_of_tree (by kernel_rfl)
theorem nM (a b:Value):argsOk "bytes.__lt__" ⟨[a,b], []⟩:=by
 unfold argsOk;rw [signature?_of (id:= "bytes.__lt__") (n:= ['_', '_', 't', 'l', '_', '_']) (o:= ['s', 'e', 't', 'y', 'b']) (by kernel_rfl) FB.owner_bytes];kernel_rfl
theorem ux:Slot "bytes" (cmpInfo .GtE).2.1 "bytes.__ge__":=
 .of (owner:= "bytes") (n:= "__ge__") (by rw [gS,gQ];kernel_rfl) (by decide+kernel) (by decide+kernel) (by decide+kernel)
  (by first|exact .inl (by decide+kernel)|exact .inr (by decide+kernel)) (by rw [isSubtype_type];kernel_rfl)
theorem sX:entryFor table "bytes.__ge__"=some Builtin.«bytes.__ge__»:=entryFor_of_tree (by kernel_rfl)
theorem uE (a b:Value):argsOk "bytes.__ge__" ⟨[a,b], []⟩:=by
 unfold argsOk;rw [signature?_of (id:= "bytes.__ge__") (n:= ['_', '_', 'e', 'g', '_', '_']) (o:= ['s', 'e', 't', 'y', 'b']) (by kernel_rfl) FB.owner_bytes];kernel_rfl
section
variable {prog:Program}{w:World}{A:Around}{E:Value->Shared->Prop}{s:Shared}{b c:Array UInt8}{t u:Tok}
theorem GR (h:Q (.bool (ig (KBw.bInts b) (KBw.bInts c))) s):wpAny (model prog w) A (compareOp .Lt (.bytes b t) (.bytes c u)) Q E s:=
 compareOp_gives (op:= .Lt) (dT s b t) (dT s c u) j1 mt (nM _ _) (mh b c t u) (λe=>nomatch e) h
theorem Ft (h:Q (.bool (!ig (KBw.bInts b) (KBw.bInts c))) s):wpAny (model prog w) A (compareOp .GtE (.bytes b t) (.bytes c u)) Q E s:=
 compareOp_gives (op:= .GtE) (dT s b t) (dT s c u) ux sX (uE _ _) (t6 b c t u) (λe=>nomatch e) h
end
noncomputable def tp:LZ->CmpOp
 | .eq=> .Eq| .ne=> .NotEq| .lt=> .Lt| .le=> .LtE| .gt=> .Gt| .ge=> .GtE| .is=> .Is| .gh=> .IsNot| .isIn=> .In
section
variable {c:Cx}{d:Nat}{m:Str->Option Value}{ac:ao}{ah:dN}{H:HP}{s:Shared}{A:Around}{E:Value->Shared->Prop}
theorem Gv {C:Prop}(e:bV .eq a b H=some r)(h1:ud BE a b=some r->C)
  (h2:∀i j x y,a= .ref i->b= .ref j->H[i]? =some (.list x)->H[j]? =some (.list y)->(if x.length=y.length then uA (ud BE) x y else some false)=some r->C):C:=by
 cases a with
 |ref i=>
  cases b with
  |ref j=>
   change (match H[i]?,H[j]? with
    |some (.list x),some (.list y)=>if x.length=y.length then uA (ud BE) x y else some false
    |_,_=>none)=some r at e
   cases q1:H[i]? with
   |none=>rw [q1] at e;exact fh e
   |some o1=>
    rw [q1] at e
    cases o1 with
    |list x=>
     cases q2:H[j]? with
     |none=>rw [q2] at e;exact fh e
     |some o2=>
      rw [q2] at e
      cases o2 with
      |list y=>exact h2 i j x y rfl rfl q1 q2 e
      |_=>exact fh e
    |_=>exact fh e
  |_=>exact h1 e
 |_=>exact h1 e
set_option tactic.hygienic true in
theorem ED (hn:aV c m ac ah H s)(hu:A.units<=9000){i j:Nat}{x y:List SV}{p q:Nat×Nat}{r:Bool}(hp:ah[i]? =some p)(hq:ah[j]? =some q)(hi:H[i]? =some (.list x))(hj:H[j]? =some (.list y))
  (e:(if x.length=y.length then uA (ud BE) x y else some false)=some r):RcAt A s (.ref p.1) (.ref q.1) r/\RcNeAt A s (.ref p.1) (.ref q.1) (!r):=by
 refine jX (gp (hn.hr.obj i _ p hi hp)) λEz n1 hm hv hl=> ?_
 refine jX (gp (hn.hr.obj j _ q hj hq)) λKj n2 iX sF td=> ?_
 refine hn.gE λg u8 u8 N=> ?_
 have DF:A.units<cLine:=by show _<9900;exact lC ‹_› rfl
 have s1:Ez.toArray.size=x.length:=by rw [List.size_toArray,<-hv.length]
 have s2:Kj.toArray.size=y.length:=by rw [List.size_toArray,<-sF.length]
 split at e
 ·rename_i eA
  refine aZ (Bk e) λe' he hb=> ?_
  have z:=F7 (s:=s) (A:=A.in1) hv sF he λx y r t b h1 h2 h3=>Tt hn BE A.in1 (by show A.units+1+6<_;lia) x y r t b h1 h2 h3
  have wU:Ez.toArray.size=Kj.toArray.size:=by rw [s1,s2,eA]
  have:r=(List.range Ez.toArray.size).all e' :=by
   rw [hb,s1,eA,Nat.min_self,iV,Bool.and_true]
  rw [this]
  exact ⟨RcAt.lists (ct N hm) (ct N iX) wU DF z,RcNeAt.lists (ct N hm) (ct N iX) wU DF z⟩
 ·rename_i eA
  have wU:(Ez.toArray.size !=Kj.toArray.size)=true:=by rw [s1,s2];exact bne_iff_ne.mpr eA
  rw [<-cq e]
  exact ⟨RcAt.lists_lengths (ct N hm) (ct N iX) wU DF,RcNeAt.lists_lengths (ct N hm) (ct N iX) wU DF⟩
theorem GW (hn:aV c m ac ah H s)(hu:A.units<=9000){a b:SV}{ra rb:Value}{r:Bool}(ha:av ac ah a ra)(hb:av ac ah b rb)(e:bV .eq a b H=some r):RcAt A s ra rb r/\RcNeAt A s ra rb (!r):=by
 refine Gv e (λe=>RZ hn (n:=BE) (by show _+6<_;lia) ha hb e) λi j x y ea eb hi hj e=> ?_
 refine aZ (cK ea ha) λp gP hp=> ?_;subst gP
 refine aZ (cK eb hb) λq gP hq=> ?_;subst gP
 exact ED hn hu hp hq hi hj e
theorem E2 (e:bV .ne a b H=some r):bV .eq a b H=some (!r):=by
 have two:∀{o:Option Bool},o.map (!·)=some r->o=some (!r):=λ{o} h=>by
  cases o with
  |none=>exact fh h
  |some z=>rw [<-cq h,Bool.not_not]
 cases a with
 |ref i=>
  cases b with
  |ref j=>
   change (match H[i]?,H[j]? with
    |some (.list x),some (.list y)=>if x.length=y.length then (uA (ud BE) x y).map (!·) else some true
    |_,_=>none)=some r at e
   show (match H[i]?,H[j]? with
    |some (.list x),some (.list y)=>if x.length=y.length then uA (ud BE) x y else some false
    |_,_=>none)=some (!r)
   cases q1:H[i]? with
   |none=>rw [q1] at e;exact fh e
   |some o1=>
    rw [q1] at e
    cases o1 with
    |list x=>
     cases q2:H[j]? with
     |none=>rw [q2] at e;exact fh e
     |some o2=>
      rw [q2] at e
      cases o2 with
      |list y=>
       refine if q3:x.length=y.length then ?_ else ?_
       ·exact (if_pos q3).trans (two ((if_pos q3).symm.trans e))
       ·exact (if_neg q3).trans (congrArg (λb=>some (!b)) (cq ((if_neg q3).symm.trans e)))
      |_=>exact fh e
    |_=>exact fh e
  |_=>exact two e
 |_=>exact two e
theorem sV (ha:av ac ah a ra):(ra==Value.none)=oX a:=by cases ha<;>rfl
noncomputable def Tv:LZ->Int->Int->Bool
 | .lt,i,j=>decide (i<j)| .le,i,j=>decide (i<=j)| .gt,i,j=>decide (j<i)|_,i,j=>decide (j<=i)
noncomputable def TW:LZ->By->By->Bool
 | .lt,x,y=>ig x y|_,x,y=> !ig x y
theorem Iu {op:LZ}(ho:op= .lt∨op= .le∨op= .gt∨op= .ge){a b:SV}{r:Bool}{C:SV->SV->Bool->Prop}(hi:∀i j,C (.int i) (.int j) (Tv op i j))(hb:(op= .lt∨op= .ge)->∀x y,C (.bytes x) (.bytes y) (TW op x y))(e:bV op a b H=some r):C a b r:=by
 have T:∀{x:Bool} {a b:SV},C a b x->some x=some r->C a b r:=λh e=>cq e▸h
 rcases ho with rfl|rfl|rfl|rfl
 ·cases a with
  |int i=>cases b with
   |int j=>exact T (hi i j) e
   |_=>exact fh e
  |bytes i=>cases b with
   |bytes j=>exact T (hb (.inl rfl) i j) e
   |_=>exact fh e
  |_=>exact fh e
 ·cases a with
  |int i=>cases b with
   |int j=>exact T (hi i j) e
   |_=>exact fh e
  |_=>exact fh e
 ·cases a with
  |int i=>cases b with
   |int j=>exact T (hi i j) e
   |_=>exact fh e
  |_=>exact fh e
 ·cases a with
  |int i=>cases b with
   |int j=>exact T (hi i j) e
   |_=>exact fh e
  |bytes i=>cases b with
   |bytes j=>exact T (hb (.inr rfl) i j) e
   |_=>exact fh e
  |_=>exact fh e
theorem vR {op:LZ}(ho:op= .lt∨op= .le∨op= .gt∨op= .ge){a b:SV}{ra rb:Value}{r:Bool}{Q:Value->Shared->Prop}(ha:av ac ah a ra)(hb:av ac ah b rb)(e:bV op a b H=some r)
  (k:Q (.bool r) s):wpAny (model c.prog c.w) A (compareOp (tp op) ra rb) Q E s:=by
 refine Iu ho (C:=λa b r=>av ac ah a ra->av ac ah b rb->Q (.bool r) s->_) ?_ ?_ e ha hb k
 ·intro i j ha hb k
  obtain ⟨t,rfl⟩:=aQ ha
  obtain ⟨u,rfl⟩:=aQ hb
  rcases ho with rfl|rfl|rfl|rfl
  ·exact PyProof.Rows.lt_int k
  ·exact PySem.P.le_int k
  ·exact PyProof.Rows.gt_int k
  ·exact PySem.P.ge_int k
 ·intro hq x y ha hb k
  refine jX (bh ha) λax t de wN u8=> ?_;subst de;subst wN
  refine jX (bh hb) λay u de wN u8=> ?_;subst de;subst wN
  rcases hq with rfl|rfl
  ·exact GR k
  ·exact Ft k
theorem L8 {C:Prop}(e:bV .isIn a b H=some r)(h:∀j o x,b= .ref j->H[j]? =some o->iq a o=some x->r=x.isSome->C):C:=by
 cases b with
 |ref j=>
  change (match H[j]? with|some o=>(iq a o).map (·.isSome)|none=>none)=some r at e
  cases q1:H[j]? with
  |none=>rw [q1] at e;exact fh e
  |some o=>
   rw [q1] at e
   change (iq a o).map (·.isSome)=some r at e
   cases q:iq a o with
   |none=>rw [q] at e;exact fh e
   |some x=>rw [q] at e;exact h j o x rfl q1 q (cq e).symm
 |_=>exact fh e
theorem Oo (hn:aV c m ac ah H s)(ha:av ac ah a ra)(hb:av ac ah b rb)(e:bV .isIn a b H=some r)
  (k:∀t,Q (.bool r) {s with toks:=t}):wpAny (model c.prog c.w) A (compareOp .In ra rb) Q E s:=by
 refine L8 e λj o x eb ho q er=> ?_
 subst er
 refine aZ (cK eb hb) λp gP hp=> ?_;subst gP
 obtain ⟨lo,FX,Nd,Gj⟩:=sB hn hp ho ha q
 refine wpAny_in_of Nd lo FX.mapOf ?_
 rcases Gj with ⟨rfl,z2⟩|⟨v,r,rfl,z2,_⟩
 ·rw [z2];exact k _
 ·rw [z2];exact k _
theorem F4 (ho:op= .is∨op= .gh)(e:bV op a b H=some r):b= .none/\r=(if op= .is then oX a else !oX a):=by
 rcases ho with rfl|rfl
 ·cases b with
  |none=>exact ⟨rfl,(cq e).symm⟩
  |_=>exact fh e
 ·cases b with
  |none=>exact ⟨rfl,(cq e).symm⟩
  |_=>exact fh e
theorem Fz (hn:aV c m ac ah H s)(hu:A.units<=9000)(ha:av ac ah a ra)(hb:av ac ah b rb)(e:bV op a b H=some r)
  (k:∀t,Q (.bool r) {s with toks:=t}):wpAny (model c.prog c.w) A (compareOp (tp op) ra rb) Q E s:=by
 have k0:Q (.bool r) s:=k s.toks
 cases op with
 |eq=>exact (GW hn hu ha hb e).1 _ _ _ _ k0
 |ne=>exact (Bool.not_not r▸(GW (A:=A) hn hu ha hb (E2 e)).2:RcNeAt A s ra rb r) _ _ _ _ k0
 |lt=>exact vR (.inl rfl) ha hb e k0
 |le=>exact vR (.inr (.inl rfl)) ha hb e k0
 |gt=>exact vR (.inr (.inr (.inl rfl))) ha hb e k0
 |ge=>exact vR (.inr (.inr (.inr rfl))) ha hb e k0
 |is=>
  obtain ⟨rfl,rfl⟩:=F4 (.inl rfl) e
  cases dX hb
  exact is_none_gen (by rw [sV ha];exact k0)
 |gh=>
  obtain ⟨rfl,rfl⟩:=F4 (.inr rfl) e
  cases dX hb
  exact isnot_none_gen (by rw [sV ha];exact k0)
 |isIn=>exact Oo hn ha hb e k
theorem Al {C:Prop}(e:eO a H=some r)(h1:a= .bool r->C)(h2:∀i vs,a= .ref i->H[i]? =some (.list vs)->r= !vs.isEmpty->C):C:=by
 cases a with
 |bool b=>exact h1 (congrArg SV.bool (cq e))
 |ref i=>
  change (match H[i]? with|some (.list vs)=>some (!vs.isEmpty)|_=>none)=some r at e
  cases q1:H[i]? with
  |none=>rw [q1] at e;exact fh e
  |some o=>
   rw [q1] at e
   cases o with
   |list vs=>exact h2 i vs rfl q1 (cq e).symm
   |_=>exact fh e
 |_=>exact fh e
theorem uJ (hn:aV c m ac ah H s)(ha:av ac ah a ra)(e:eO a H=some r)
  (k:∀t,Q r {s with toks:=t}):wpAny (model c.prog c.w) A (truthy ra) Q E s:=by
 refine Al e (λea=> ?_) λi vs ea hO er=> ?_
 ·subst ea
  cases kD ha
  exact wpAny_truthy_bool (k s.toks)
 ·subst er
  refine aZ (cK ea ha) λp gP hp=> ?_;subst gP
  refine jX (gp (hn.hr.obj i _ p hO hp)) λEQ n hm hv hl=> ?_
  refine hn.gE λg u8 u8 N=> ?_
  have e:EQ.toArray.isEmpty=vs.isEmpty:=by
   rw [List.isEmpty_toArray]
   cases hv<;>rfl
  refine wpAny_truthy_list (ct N hm) (by have:vs.length<=4096:=hl;rw [List.size_toArray,<-hv.length];lia) ?_
  rw [e];exact k _
end
inductive yh:SV->Option Int->Prop
 |none:yh .none none
 |int (i:Int):0<=i->yh (.int i) (some i)
theorem o9 (h:0<=i):clipAt n i=min i.toNat n:=by
 have:i=(i.toNat:Int):=by lia
 rw [this,clipAt_nat,<-this]
theorem xn {α:Type}(l:List α)(k:Nat):l.take (min k l.length)=l.take k:=by rw [<-List.take_take,List.take_length]
theorem Ew {α:Type}(l:List α)(k:Nat):l.drop (min k l.length)=l.drop k:=by
 rcases Nat.le_total k l.length with h|h
 ·rw [Nat.min_eq_left h]
 ·rw [Nat.min_eq_right h,List.drop_length,List.drop_eq_nil_of_le h]
theorem Gl {α:Type}{l c:List α}{lo hi:SV}{P:Prop}(e:lJ l lo hi=some c)(h1:∀h,lo= .none->hi= .int h->0<=h->c=l.take h.toNat->P)(h2:∀a,lo= .int a->hi= .none->0<=a->c=l.drop a.toNat->P)
  (h3:∀a h,lo= .int a->hi= .int h->0<=a->0<=h->c=(l.take h.toNat).drop a.toNat->P):P:=by
 have I:∀{q:Prop} [Decidable q] {x:List α},(if q then some x else none)=some c->(q->c=x->P)->P:=λe k=>by
  split at e
  ·exact k ‹_› (cq e).symm
  ·exact fh e
 cases lo with
 |none=>cases hi with
  |int h=>exact I e λq e=>h1 h rfl rfl q e
  |_=>exact fh e
 |int a=>cases hi with
  |none=>exact I e λq e=>h2 a rfl rfl q e
  |int h=>exact I e λq e=>h3 a h rfl rfl q.1 q.2 e
  |_=>exact fh e
 |_=>exact fh e
theorem uT {α:Type}{l c:List α}{lo hi:SV}(e:lJ l lo hi=some c):∃a b,yh lo a/\yh hi b/\
  (l.drop (a.elim 0 (clipAt l.length))).take (b.elim l.length (clipAt l.length) - a.elim 0 (clipAt l.length))=c:=by
 refine Gl e (λh e1 e2 h0 e3=> ?_) (λa e1 e2 h0 e3=> ?_) λa h e1 e2 h0 h1 e3=> ?_
 ·subst e1 e2 e3
  refine ⟨_,_, .none, .int _ h0, ?_⟩
  show (l.drop 0).take (clipAt l.length h - 0)=_
  rw [o9 h0,List.drop_zero,Nat.sub_zero,xn]
 ·subst e1 e2 e3
  refine ⟨_,_, .int _ h0, .none, ?_⟩
  show (l.drop (clipAt l.length a)).take (l.length - clipAt l.length a)=_
  rw [o9 h0,<-List.drop_take,List.take_length,Ew]
 ·subst e1 e2 e3
  refine ⟨_,_, .int _ h0, .int _ h1, ?_⟩
  show (l.drop (clipAt l.length a)).take (clipAt l.length h - clipAt l.length a)=_
  rw [o9 h0,o9 h1,<-List.drop_take,xn]
  rcases Nat.le_total a.toNat l.length with q|q
  ·rw [Nat.min_eq_left q]
  ·rw [Nat.min_eq_right q,List.drop_eq_nil_of_le (List.length_take_le' _ _),List.drop_eq_nil_of_le (cy (List.length_take_le' _ _) q)]
theorem AG {α:Type}{l c:List α}(e:(l.drop x).take y=c)(h:l.length<=n):c.length<=n:=by
 rw [<-e,List.length_take,List.length_drop]
 exact cy (cy (Nat.min_le_right _ _) (Nat.sub_le _ _)) h
theorem rY (h:av ac ah v r)(c:yh v i):IsPart r i:=by
 cases c with
 |none=>cases h;exact .none
 |int i h0=>cases h;exact .int _ _
theorem zD {a b n:Nat}(h:a<=b)(hb:b<=n):Builtin.Slice.sliceAdjust (some (a:Int)) (some (b:Int)) 1 (n:Int)=((a:Int),(b:Int)):=by
 unfold Builtin.Slice.sliceAdjust
 have h1:¬((1:Int)<0):=by decide
 have h2:¬((a:Int)<0):=by lia
 have h3:¬((b:Int)<0):=by lia
 simp only [h1,h2,h3,if_false]
 congr 1
 ·lia
 ·lia
section
variable {prog:Program}{w:World}{A:Around}{E:Value->Shared->Prop}{s:Shared}
theorem pX {sl:Addr}{a b n:Nat}{u u' :Tok}{Q:Int×Int×Nat->Shared->Prop}(hs:s.heap.IsSliceOf sl (.int a u) (.int b u') .none)(ha:a<=b)(hb:b<=n)(h:Q ((a:Int),1,b - a) s):
  wpAny (model prog w) A (Builtin.Slice.sliceApplied (.ref sl) (pure (n:Int))) Q E s:=by
 refine mF (id hs) λos IK Ux Nv=> ?_
 unfold Builtin.Slice.sliceApplied Builtin.Slice.sliceFields
 refine ar (ar (wpAny_field IK Nv (x:= .int a u) rfl (ar (wpAny_field IK Nv (x:= .int b u') rfl (ar (wpAny_field IK Nv (x:= .none) rfl (bu ?_)))))))
 refine ar (slicePart_none ?_)
 show wpAny _ _ (if ((1:Int)==0)=true then _ else _) _ _ s
 rw [if_neg (by decide)]
 refine ar (slicePart_int (ar (slicePart_int (ar (bu ?_)))))
 show wpAny _ _ (match Builtin.Slice.sliceAdjust (some (a:Int)) (some (b:Int)) 1 (n:Int) with|(lo,hi)=>pure (lo,(1:Int),Builtin.Slice.slicePlaces lo hi 1)) _ _ s
 rw [zD ha hb]
 show wpAny _ _ (pure ((a:Int),(1:Int),Builtin.Slice.slicePlaces (a:Int) (b:Int) 1)) _ _ s
 rw [places_from a b ha]
 exact bu h
theorem Ha (xs:Array Value)(a k:Nat):((List.range k).filterMap λ(k:Nat)=>xs[((a:Int)+(k:Int)*1).toNat]?).toArray=((xs.toList.drop a).take k).toArray:=by
 have e:(λ(k:Nat)=>xs[((a:Int)+(k:Int)*1).toNat]?)=λk=>xs[a+k]? :=by
  funext k
  have:((a:Int)+(k:Int)*1).toNat=a+k:=by lia
  rw [this]
 rw [e]
 have:=pick_run xs a k
 rw [List.filterMap_map] at this
 have e2:((λx=>xs[x]?)∘λx=>a+x)=λk=>xs[a+k]? :=rfl
 rw [e2] at this
 rw [this]
theorem pw {t sl:Addr}{aC:Array Value}{a b:Nat}{u u' :Tok}{Q:Value->Shared->Prop}(ht:IsTup s.heap t aC)(hs:s.heap.IsSliceOf sl (.int a u) (.int b u') .none)(h1:1<=a)(ha:a<=b)(hb:b<=aC.size)
  (h:Q (.ref s.heap.objs.size) {s with heap:=s.heap.push {cls:= .type "tuple",data:= .seq ((aC.toList.drop a).take (b - a)).toArray}})
  (wU:aC.size<=sizeLine):wpAny (model prog w) A (getItem (.ref t) (.ref sl)) Q E s:=by
 have Bm:sizeOk (.seq ((aC.toList.drop a).take (b - a)).toArray):=by
  show ((aC.toList.drop a).take (b - a)).toArray.size<=sizeLine
  rw [List.size_toArray,List.length_take,List.length_drop,Array.length_toList]
  lia
 refine mF (id hs) λos IK Ux Nv=> ?_
 have Wc:s.TypeIs (.ref sl) "slice":=⟨os,IK,Ux⟩
 unfold getItem
 try with_reducible refine wpAny_holding ?_
 first|refine ar (bu ?_)|skip
 refine ar (wpAny_sequenceKey ht.typeIs (by decide) ?_)
 refine ar (wpAny_callSpecial?_slot (name:=Str.ofString "__getitem__") ht.typeIs slot_tuple_getitem
  (wpAny_call_entry slot_tuple_getitem ht.typeIs entry_tuple_getitem ?_ (args_tuple_getitem _ _)))
 show wpAny _ _ (Builtin.Tuple.tupleItemsOf (.ref t)>>=_) _ _ s
 refine ar (tupleItemsOf_ ht ?_)
 refine ar (wpAny_typeOf Wc ?_)
 rw [if_pos (by decide)]
 refine ar (pX hs ha hb ?_)
 have Jz:¬(((a:Int)==0&&(1:Int)==1&&(b - a)==aC.size)=true):=by
  have:((a:Int)==0)=false:=by rw [beq_eq_false_iff_ne];lia
  rw [this];simp
 show wpAny _ _ (if ((a:Int)==0&&(1:Int)==1&&(b - a)==aC.size)=true then _ else _) _ _ s
 rw [if_neg Jz,Ha aC a]
 first
  |exact ar (m:=Builtin.Tuple.tupleExact _) (wpAny_newObj_type (bu ⟨_,rfl,bu h⟩) Bm)
  |exact ar (m:=Builtin.Tuple.tupleExact _) (wpAny_newObj_type (ar (bu (bu ⟨_,rfl,bu h⟩))) Bm)
  |exact ar (ar (m:=Builtin.Tuple.tupleExact _) (wpAny_newObj_type (bu (bu ⟨_,rfl,bu h⟩)) Bm))
  |exact ar (ar (m:=Builtin.Tuple.tupleExact _) (wpAny_newObj_type (bu ⟨_,rfl,bu h⟩) Bm))
end
section
variable {c:Cx}{d:Nat}{m:Str->Option Value}{ac:ao}{ah:dN}{H:HP}{s:Shared}{A:Around}{E:Value->Shared->Prop}
theorem kh (hn:aV c m ac ah H s){t:Nat}(T:KtsTurn c.fs c.g₀ g)(F:Fr g c.L h' m)(N:News g c.L h' ((D,jG rs)::ac))(lt:∀q∈ac,q.1<D)(hv:aI ac ah vs rs)(hl:vs.length<=big):
  aV c m ((D,jG rs)::ac) ah H {s with heap:=h',toks:=t}/\br [] ac ah ((D,jG rs)::ac) ah/\av ((D,jG rs)::ac) ah (.tuple vs) (.ref D):=
 have X:br [] ac ah ((D,jG rs)::ac) ah:=br.cons _
 ⟨hn.more T F N lt,X, .tuple (.head _) (hv.ext X) hl⟩
theorem qa (lower upper:Option Expr)(p:Pos)(o i:Value):subscripted (.Slice lower upper none p) false o i=operate [i,o] (getItem o i):=by with_unfolding_all rfl
theorem slice_cases {C:SV->SV->SV->dz SV->Prop}(bad:∀{o a b},C o a b .bad)(bb:∀b lo hi c,lJ b lo hi=some c->C (.bytes b) lo hi (.ok (.bytes c) H))
  (tt:∀vs a h,1<=a/\a<=h/\h<=vs.length->C (.tuple vs) (.int a) (.int h) (.ok (.tuple ((vs.take h.toNat).drop a.toNat)) H)) (rr:∀r vs lo hi c,H[r]? =some (.list vs)->lJ vs lo hi=some c->C (.ref r) lo hi (.ok (.ref H.length) (H++ [.list c]))) (o a b:SV):C o a b (f6 o a b H):=by
 cases o with
 |bytes x=>
  show C _ _ _ (match lJ x a b with|some c=> .ok (.bytes c) H|none=> .bad)
  cases q:lJ x a b with
  |none=>exact bad
  |some c=>exact bb _ _ _ _ q
 |tuple vs=>cases a with
  |int i=>cases b with
   |int j=>
    show C _ _ _ (if 1<=i/\i<=j/\j<=vs.length then .ok (.tuple ((vs.take j.toNat).drop i.toNat)) H else .bad)
    split
    ·exact tt _ _ _ ‹_›
    ·exact bad
   |_=>exact bad
  |_=>exact bad
 |ref r=>
  show C _ _ _ (match H[r]? with
   |some (.list vs)=>match lJ vs a b with
    |some c=> .ok (.ref H.length) (H++ [.list c])
    |none=> .bad
   |_=> .bad)
  cases hO:H[r]? with
  |none=>exact bad
  |some o=>cases o with
   |list vs=>
    show C _ _ _ (match lJ vs a b with|some c=> .ok (.ref H.length) (H++ [.list c])|none=> .bad)
    cases q:lJ vs a b with
    |none=>exact bad
    |some c=>exact rr _ _ _ _ _ hO q
   |_=>exact bad
 |_=>exact bad
section
variable {value:Expr}{lower upper:Option Expr}{p:Pos}{Q:Value->Shared->Prop}
theorem xH (hn:aV c m ac ah H s)(h2:(KBw.bInts dm).length<=big)(ha:av ac ah a ra)(hb:av ac ah b rb)(hc:lJ (KBw.bInts dm) a b=some cc)
  (k:∀az bM s' rx,aV c m az bM H s'->br [] ac ah az bM->av az bM (.bytes cc) rx->Q rx s'):
  wpAny (model c.prog c.w) A (subscriptTail value (.Slice lower upper none p) (.bytes dm t) (.ref s.heap.objs.size)) Q E {s with heap:=s.heap.push {cls:= .type "slice",data:= .fields #[ra,rb, .none]}}:=by
 refine hn.gE λg T F N=> ?_
 refine jX (uT hc) λlo hi c1 c2 Fv=> ?_
 have ka:(KBw.bInts dm).length<=4096:=h2
 refine KBc.slice_K F N rfl (rY ha c1) (rY hb c2) (by exact lA ‹_› rfl) (λh' t' k' F' N' Ls=> ?_) (qa _ _ _ _ _) (mG _ _ _)
 rw [Fv] at Ls
 exact k _ _ _ _ (⟨⟨g,T,F',N'⟩,hn.nd,hn.hr,hn.cells,hn.sh⟩) br.refl (.bytes _ _ Ls (AG Fv h2))
theorem CB (hn:aV c m ac ah H s){vs:List SV}{aC:List Value}{ad:Addr}{i j:Int}{ti tj:Tok}(hm:(ad,jG aC)∈ac)(hv:aI ac ah vs aC)(hl:vs.length<=big)(hh:1<=i/\i<=j/\j<=vs.length)
  (k:∀az bM s' rx,aV c m az bM H s'->br [] ac ah az bM->av az bM (.tuple ((vs.take j.toNat).drop i.toNat)) rx->Q rx s'):
  wpAny (model c.prog c.w) A (subscriptTail value (.Slice lower upper none p) (.ref ad) (.ref s.heap.objs.size)) Q E {s with heap:=s.heap.push {cls:= .type "slice",data:= .fields #[.int i ti, .int j tj, .none]}}:=by
 refine hn.gE λg T F N=> ?_
 have hle:=hv.length
 have td:vs.length<=4096:=hl
 have ei:i=(i.toNat:Int):=by lia
 have ej:j=(j.toNat:Int):=by lia
 have b1:1<=i.toNat:=by lia
 have b2:i.toNat<=j.toNat:=by lia
 have b3:j.toNat<=aC.toArray.size:=by rw [List.size_toArray];lia
 have ht:IsTup (s.heap.push {cls:= .type "slice",data:= .fields #[.int i ti, .int j tj, .none]}) ad aC.toArray:=(tC N hm).keeps λu8 u8 e=>fL _ e
 have QM:(s.heap.push {cls:= .type "slice",data:= .fields #[.int i ti, .int j tj, .none]}).IsSliceOf s.heap.objs.size (.int (i.toNat:Int) ti) (.int (j.toNat:Int) tj) .none:=by
  rw [<-ei,<-ej];exact Heap.IsSliceOf.new ..
 refine tail_any (s:={s with heap:=s.heap.push {cls:= .type "slice",data:= .fields #[.int i ti, .int j tj, .none]}}) ht.typeIs slot_tuple_getitem.lookup
  (pw ht QM b1 b2 b3 ?_ (by rw [List.size_toArray,eT,<-hle];exact cy td (by decide))) (qa _ _ _ _ _)
 have N1:=News.push (F.push {cls:= .type "slice",data:= .fields #[.int i ti, .int j tj, .none]}) (N.grown λu8 u8 e=>fL _ e) (jG ((aC.drop i.toNat).take (j.toNat - i.toNat)))
 have sF:aI ac ah ((vs.take j.toNat).drop i.toNat) ((aC.drop i.toNat).take (j.toNat - i.toNat)):=by
  rw [List.drop_take];exact (hv.drop _).take _
 obtain ⟨a1,a2,a3⟩:=kh (t:=s.toks) hn T ((F.push _).push _) N1 (λq hq=>by rw [Heap.size_push];exact Nat.lt_succ_of_lt (hn.lt q hq)) sF (AG (List.drop_take ..).symm hl)
 exact k _ _ _ _ a1 a2 a3
theorem vm (hn:aV c m ac ah H s){ad:Addr}(hL:s.heap.IsList ad aC.toArray)(hv:aI ac ah vs aC)(hl:vs.length<=big)(ha:av ac ah a ra)(hb:av ac ah b rb)(hc:lJ vs a b=some cc)
  (k:∀az bM s' rx,aV c m az bM (H++ [.list cc]) s'->br [] ac ah az bM->av az bM (.ref H.length) rx->Q rx s'):
  wpAny (model c.prog c.w) A (subscriptTail value (.Slice lower upper none p) (.ref ad) (.ref s.heap.objs.size)) Q E {s with heap:=s.heap.push {cls:= .type "slice",data:= .fields #[ra,rb, .none]}}:=by
 refine hn.gE λg T F N=> ?_
 refine jX (uT hc) λlo hi c1 c2 Fv=> ?_
 have td:vs.length<=4096:=hl
 have hle:=hv.length
 refine tail_any (s:={s with heap:=s.heap.push {cls:= .type "slice",data:= .fields #[ra,rb, .none]}}) (Heap.IsList.typeIs (s:={s with heap:=s.heap.push {cls:= .type "slice",data:= .fields #[ra,rb, .none]}}) (hL.push _)) slot_list_getitem.lookup
  (wpAny_getItem_list_slice (hL.push _) (Heap.IsSliceOf.new ..) (rY ha c1) (rY hb c2) .none (by simp) ?_ (by rw [List.size_toArray,eT,<-hle];exact cy td (by decide))) (qa _ _ _ _ _)
 rw [show slicePick aC.toArray lo hi none=((aC.drop (lo.elim 0 (clipAt vs.length))).take (hi.elim vs.length (clipAt vs.length) - lo.elim 0 (clipAt vs.length))).toArray by rw [slicePick_plain,List.size_toArray,<-hle]]
 have sF:=(hv.drop (lo.elim 0 (clipAt vs.length))).take (hi.elim vs.length (clipAt vs.length) - lo.elim 0 (clipAt vs.length))
 rw [Fv] at sF
 have N1:=News.push (F.push {cls:= .type "slice",data:= .fields #[ra,rb, .none]}) (N.grown λu8 u8 e=>fL _ e) (listOf ((aC.drop (lo.elim 0 (clipAt vs.length))).take (hi.elim vs.length (clipAt vs.length) - lo.elim 0 (clipAt vs.length))).toArray 0)
 obtain ⟨a1,a2,a3⟩:=jm (t:=s.toks) hn T ((F.push _).push _) N1 (λq hq=>by rw [Heap.size_push];exact Nat.lt_succ_of_lt (hn.lt q hq)) sF (AG Fv hl)
 exact k _ _ _ _ a1 a2 a3
end
theorem Fg (ok:c.Ok d)(hn:aV c m ac ah H s){value:Expr}{lower upper:Option Expr}{p:Pos}{o a b x:SV}{ro ra rb:Value}{H' :HP}{Q:Value->Shared->Prop}(ho:av ac ah o ro)(ha:av ac ah a ra)(hb:av ac ah b rb)(e:f6 o a b H= .ok x H')
  (k:∀az bM s' rx,aV c m az bM H' s'->br [] ac ah az bM->av az bM x rx->Q rx s'):
  wpAny (model c.prog c.w) A (subscriptTail value (.Slice lower upper none p) ro (.ref s.heap.objs.size)) Q E {s with heap:=s.heap.push {cls:= .type "slice",data:= .fields #[ra,rb, .none]}}:=by
 refine slice_cases (C:=λo a b z=>z= .ok x H'->av ac ah o ro->av ac ah a ra->av ac ah b rb->wpAny (model c.prog c.w) A (subscriptTail value (.Slice lower upper none p) ro (.ref s.heap.objs.size)) Q E {s with heap:=s.heap.push {cls:= .type "slice",data:= .fields #[ra,rb, .none]}})
  (λe=>HL e) (λbb lo hi cc hc e ho ha hb=> ?_) (λvs i j hh e ho ha hb=> ?_) (λr vs lo hi cc hO hc e ho ha hb=> ?_) o a b e ho ha hb
 ·refine jX (bh ho) λdm t de wN h2=> ?_;subst de;subst wN
  exact oG e λhx hH=>by subst hx hH;exact xH hn h2 ha hb hc k
 ·refine xM (cT ho) λaC ad de h1 h2 h3=> ?_;subst de
  obtain ⟨ti,rfl⟩:=aQ ha
  obtain ⟨tj,rfl⟩:=aQ hb
  exact oG e λhx hH=>by subst hx hH;exact CB hn h1 h2 h3 hh k
 ·refine aZ (cK rfl ho) λp' gP hp=> ?_;subst gP
  refine jX (gp (hn.hr.obj r _ p' hO hp)) λaC n h1 h2 h3=> ?_
  exact oG e λhx hH=>by subst hx hH;exact vm hn (let ⟨_,_,_,N⟩:=hn.g;ct N h1) h2 h3 ha hb hc k
end
end Mine
namespace Mine
open PySem PySem.W PySem.Calls PyProof.Rows PySem.Spec
noncomputable def sd:Code->Bool
 | .builtin id _=> !(Builtin.Bytes.decodersThatHold.contains id)
 |_=>true
noncomputable def Good (Γ:PySem.Ctx):Prop:=sd Γ.code=true/\∀q∈Γ.below,sd q.1=true
noncomputable def aG {α:Type}(M:Model)(A:Around)(t:Sem α)(Q:α->Shared->Prop)(E:Value->Shared->Prop)(s:Shared):Prop:=
 ∀Γ p,Γ.In A->Good Γ->Sem.wp M Γ t (λa u8 s' =>Q a s') (λe u8 s' =>E e s') p s
noncomputable def fe (M:Model)(A:Around)(c:Code)(R:Result->Shared->Prop)(s:Shared):Prop:=
 ∀Γ p,Γ.code=c->Γ.Below A->Good Γ->wpCode M Γ R p s
section
variable {α β:Type}{M:Model}{A:Around}{E:Value->Shared->Prop}{s:Shared}
theorem ap {t:Sem α}{Q:α->Shared->Prop}(h:wpAny M A t Q E s):aG M A t Q E s:=λΓ p i u8=>h Γ p i
theorem Ow {R:Result->Shared->Prop}(h:codeAny M A c R s):fe M A c R s:=λΓ p e b u8=>h Γ p e b
theorem aq {a:α}{Q:α->Shared->Prop}(h:Q a s):aG M A (pure a) Q E s:=λu8 u8 u8 u8=>h
theorem gG {t:Sem α}{Q Q' :α->Shared->Prop}(h:aG M A t Q E s)(hQ:∀a s,Q a s->Q' a s)(hE:∀e s,E e s->E' e s):aG M A t Q' E' s:=
 λΓ p i g=>Sem.wp_mono M Γ t (λa u8 s=>hQ a s) (λe u8 s=>hE e s) p s (h Γ p i g)
theorem aA {t:Sem α}{Q Q' :α->Shared->Prop}(h:aG M A t Q E s)(hQ:∀a s,Q a s->Q' a s):aG M A t Q' E s:=gG h hQ λu8 u8 x=>x
theorem ag {m:Sem α}{f:α->Sem β}{Q:β->Shared->Prop}(h:aG M A m (λa s' =>aG M A (f a) Q E s') E s):aG M A (m>>=f) Q E s:=λΓ p i g=>by
 rw [Sem.wp_bind']
 exact Sem.wp_mono M Γ m (λa p' s' h' =>h' Γ p' i g) (λu8 u8 u8 h' =>h') p s (h Γ p i g)
theorem gk {m:Sem α}{Q:α->Shared->Prop}(h:aG M A m Q (λe s' =>aG M A (k e) (λu8 oy=>E e oy) E s') s):aG M A (m.onRaise k) Q E s:=λΓ p i g=>by
 rw [Sem.wp_onRaise]
 exact Sem.wp_mono M Γ m (λu8 u8 u8 h' =>h') (λe p' s' h' =>h' Γ p' i g) p s (h Γ p i g)
theorem xX {m:Sem α}{Q:Except Value α->Shared->Prop}(h:aG M A m (λa=>Q (.ok a)) (λe=>Q (.error e)) s):aG M A m.attempt Q E s:=λΓ p i g=>by
 rw [Sem.wp_attempt];exact h Γ p i g
theorem Jx {m:Sem α}{k:Value->Sem α}{Q:α->Shared->Prop}(h:aG M A m Q (λe s' =>aG M A (k e) Q E s') s):aG M A (tryCatch m k) Q E s:=λΓ p i g=>by
 rw [Sem.wp_tryCatch']
 exact Sem.wp_mono M Γ m (λu8 u8 u8 h' =>h') (λe p' s' h' =>h' Γ p' i g) p s (h Γ p i g)
theorem aD {m:Sem α}{Q:α->Shared->Prop}(h:aG M A m Q E s):aG M A (holding vs m) Q E s:=λΓ p i g=>by
 rw [Sem.wp_holding];exact h Γ p i g
theorem aB (h:Q () s):aG M A (standAt pos) Q E s:=λu8 u8 u8 u8=>h
theorem uR (h:Q () s):aG M A point Q E s:=λu8 u8 u8 u8=>h
theorem jV (h:Q () s):aG M A (release vs keep) Q E s:=λΓ p u8 u8=>by
 rw [Sem.wp_release];exact h
theorem iz (h:aG M A m Q E s):aG M A (operate vs m) Q E s:=λΓ p i g=>by
 rw [Sem.wp_operate];exact h Γ p i g
theorem uw (hg:A.guards=some gs)(hf:∀c p,c.isGuard=false->sd c=true->f (c,p)=false)(Jz:∀c∈gs,∀p,f (c,p)=false)(h:Q false s):
  aG M A (do return (<-stack).any f) Q E s:=λΓ p i g=>by
 show Q (((Γ.code,p)::Γ.below).any f) s
 have:((Γ.code,p)::Γ.below).any f=false:=by
  rw [List.any_eq_false]
  intro x hx Vc
  have Yw:guardsOf ((Γ.code,p)::Γ.below)=gs:=by rw [guardsOf_cons];exact i.2.2.2.1 gs hg
  have hc:sd x.1=true:=by
   rcases cH hx with rfl|hx
   ·exact g.1
   ·exact g.2 x hx
  cases Vs:x.1.isGuard with
  |false=>
   have:=hf x.1 x.2 Vs hc
   rw [show ((x.1,x.2):Code×Pos)=x from rfl,Vc] at this;exact B6 this
  |true=>
   have hm:x.1∈gs:=by
    rw [<-Yw]
    unfold guardsOf
    exact List.mem_filter.mpr ⟨hZ (f:=(·.1)) hx,Vs⟩
   have:=Jz x.1 hm x.2
   rw [show ((x.1,x.2):Code×Pos)=x from rfl,Vc] at this;exact B6 this
 rw [this];exact h
theorem Good.enter {Γ:PySem.Ctx}(g:Good Γ)(hc:sd c=true)(hd:Option Value)(p:Pos):Good (Γ.enter c hd p):=
 ⟨hc,λq hq=>by
  rcases cH hq with rfl|hq
  ·exact g.1
  ·exact g.2 q hq⟩
theorem Good.goto {Γ:PySem.Ctx}(g:Good Γ)(hc:sd c=true):Good (Γ.goto c):=⟨hc,g.2⟩
theorem Iv (tz:sd c=true)
  (hc:fe M (A.mark h) c (λr s' =>match r with| .ok f=>Q f s' | .error e=>E e s') s) (Ye:h≠some byPass):aG M A (PySem.run c h) Q E s:=
 λΓ p i g=>by rw [Sem.wp_run];exact hc _ p rfl (i.enter c h p Ye) (g.enter tz h p)
theorem wu (tz:sd c=true)
  (hc:fe M A c (λr s' =>match r with| .ok (.ret v)=>Q v s' | .ok _=>False| .error e=>E e s') s):aG M A (runValue c) Q E s:=λΓ p i g=>by
 rw [Sem.wp_runValue];exact hc _ p rfl (i.enter c none p (by intro x;exact mZ x)) (g.enter tz none p)
theorem jl
  (hc:fe M A (.call f ⟨pos,kw⟩) (λr s' =>match r with| .ok (.ret v)=>Q v s' | .ok _=>False| .error e=>E e s') s):aG M A (call f pos kw) Q E s:=wu rfl hc
noncomputable def MJ (M:Model)(A:Around)(R:Result->Shared->Prop):Fin->Shared->Prop:=λfin s' =>match fin with
 | .done f=>R (.ok f) s'
 | .again c' =>c'.quiet=true/\sd c' =true/\fe M A c' R s'
theorem dI {R:Result->Shared->Prop}(h:aG M (A.under c) (M.den c) (MJ M A R) (λe s' =>R (.error e) s') s):fe M A c R s:=λΓ p hc b g=>by
 rw [wpCode_iff_wp,hc]
 refine Sem.wp_mono M Γ _ (λfin p' s' h' => ?_) (λu8 u8 u8 h' =>h') p s (h Γ p (hc▸b.in) g)
 cases fin with
 |done f=>exact h'
 |again c' =>exact ⟨h'.1,h'.2.2 (Γ.goto c') p' rfl (b.goto c') (g.goto h'.2.1)⟩
theorem nU {R R' :Result->Shared->Prop}(h:fe M A c R s)(hR:∀r s,R r s->R' r s):fe M A c R' s:=λΓ p hc b g=>wpCode_mono hR (h Γ p hc b g)
theorem QR {t:Sem α}{Q:α->Shared->Prop}(h:aG M A.in1 t Q E s):aG M A t Q E s:=
 λΓ p i g=>h Γ p ⟨i.1,i.2.1,i.2.2.1,i.2.2.2.1,Nat.le_succ_of_le i.2.2.2.2⟩ g
end
theorem sk:Manifest.owners.lookup (String.ofList ['y', 'a', 'r', 'r', 'a', 'e', 't', 'y', 'b'].reverse)=some Manifest.sig_bytearray:=by kernel_rfl
theorem my:Slot "bytearray" "append" "bytearray.append":=
 .of (owner:= "bytearray") (n:= "append") (by rw [gS,gQ];kernel_rfl) (by decide+kernel) (by decide+kernel) (by decide+kernel)
  (by first|exact .inl (by decide+kernel)|exact .inr (by decide+kernel)) (by rw [isSubtype_type];kernel_rfl)
theorem tK:typeOf (.builtin "bytearray.append")=pure (.type "method_descriptor"):=by show builtinType _=_;rw [builtinType_eq_fast];kernel_rfl
theorem re:entryFor table "bytearray.append"=some Builtin.«bytearray.append»:=entryFor_of_tree (by kernel_rfl)
theorem tD (a b:Value):argsOk "bytearray.append" ⟨[a,b], []⟩:=by
 unfold argsOk;rw [signature?_of (id:= "bytearray.append") (n:= ['d', 'n', 'e', 'p', 'p', 'a']) (o:= ['y', 'a', 'r', 'r', 'a', 'e', 't', 'y', 'b']) (by kernel_rfl) sk];kernel_rfl
theorem mB:Slot "bytearray" "extend" "bytearray.extend":=
 .of (owner:= "bytearray") (n:= "extend") (by rw [gS,gQ];kernel_rfl) (by decide+kernel) (by decide+kernel) (by decide+kernel)
  (by first|exact .inl (by decide+kernel)|exact .inr (by decide+kernel)) (by rw [isSubtype_type];kernel_rfl)
theorem tM:typeOf (.builtin "bytearray.extend")=pure (.type "method_descriptor"):=by show builtinType _=_;rw [builtinType_eq_fast];kernel_rfl
theorem rh:entryFor table "bytearray.extend"=some Builtin.«bytearray.extend»:=entryFor_of_tree (by kernel_rfl)
theorem tX (a b:Value):argsOk "bytearray.extend" ⟨[a,b], []⟩:=by
 unfold argsOk;rw [signature?_of (id:= "bytearray.extend") (n:= ['d', 'n', 'e', 't', 'x', 'e']) (o:= ['y', 'a', 'r', 'r', 'a', 'e', 't', 'y', 'b']) (by kernel_rfl) sk];kernel_rfl
theorem rg:typeLookup (.type "bytearray") "__getattribute__"=pure (some (.builtin "bytearray.__getattribute__")):=by rw [gS,gQ];kernel_rfl
theorem Ge:Manifest.canonical "bytearray.__getattribute__"= "object.__getattribute__":=by decide+kernel
theorem AC:typeLookup (.type "bytearray") "__getattr__"=pure none:=by rw [gS,gQ];kernel_rfl
section
variable {prog:Program}{w:World}{A:Around}{E:Value->Shared->Prop}{s:Shared}{D:Addr}{dm:Array UInt8}
theorem el (ho:s.heap.get? D=some (eP dm)):s.TypeIs (.ref D) "bytearray":=⟨_,ho,rfl⟩
theorem vp {id:String}{pl:Sem Bool}(ho:s.heap.get? D=some (eP dm))(hs:Slot "bytearray" name id)(ht:typeOf (.builtin id)=pure (.type "method_descriptor"))
  (h:Q (.builtin id, [.ref D]) s):wpAny (model prog w) A (getMethod (.ref D) name pl) Q E s:=by
 unfold getMethod
 refine ar (fo (el ho) rg ?_)
 show wpAny _ A (if (Manifest.canonical "bytearray.__getattribute__" != "object.__getattribute__")=true then _ else _) Q E s
 rw [Ge,if_neg (by decide)]
 refine ar (fo (el ho) AC ?_)
 refine ar (fo (el ho) hs.lookup ?_)
 refine ar (db ht ?_)
 refine ar (wpAny_load ho ?_)
 exact ar (wpAny_rule (bu h))
theorem ny {id:String}{R:Result->Shared->Prop}(hb:entryFor table id=some b)
  (h:aG (model prog w) (A.under (.builtin id args)) (b args) (MJ (model prog w) A R) (λe s' =>R (.error e) s') s):fe (model prog w) A (.builtin id args) R s:=by
 refine dI ?_
 show aG _ _ (match entryFor table id with|some b=>b args|none=>unsupported ((withoutEnding? id "#data").getD id)) _ _ _
 rw [hb]
 exact h
theorem qG {id:String}(h:Slot T name id)(hT:s.TypeIs self T)(hb:entryFor table id=some b)(tz:Builtin.Bytes.decodersThatHold.contains id=false)
  (ha:argsOk id ⟨self::aH, []⟩) (hc:aG (model prog w) A.in1 (b ⟨self::aH, []⟩) (λfin s' =>∃v,fin= .done (.ret v)/\Q v s') E s):aG (model prog w) A (call (.builtin id) (self::aH)) Q E s:=by
 refine jl (dI ?_)
 show aG _ A.in1 (do checkBuiltinCall id ⟨self::aH, []⟩;again (.builtin id ⟨self::aH, []⟩)) _ _ s
 refine ag (ap (h.check _ _ _ _ _ _ _ _ hT ha (show aG _ _ _ _ _ _ from ?_)))
 refine aq ⟨plainId_quiet h.plain _,(by show (!Builtin.Bytes.decodersThatHold.contains id)=true;rw [tz];rfl),ny hb ?_⟩
 rw [Around.under_plainId h.plain]
 exact gG hc (λfin s' h' =>by obtain ⟨v,rfl,hv⟩:=h';exact hv) λu8 u8 x=>x
theorem tu (hg:A.guards=some [])(h:Q false s):aG (model prog w) A (Builtin.Bytes.exported self) Q E s:=by
 unfold Builtin.Bytes.exported
 refine uw hg (λc p h1 h2=> ?_) (λc hc=>jZ hc) h
 cases c with
 |builtin id a=>
  obtain ⟨l,kw⟩:=a
  have ne:∀x,guardIds.contains x=true->id≠x:=λx hx e=>by
   subst e
   exact absurd (show guardIds.contains id=false from h1) (by rw [hx];decide)
  have hd:Builtin.Bytes.decodersThatHold.contains id=false:=by
   have h2:(!Builtin.Bytes.decodersThatHold.contains id)=true:=h2
   rwa [Bool.not_eq_true'] at h2
  have n1:=ne "bytearray.__contains__" (by decide+kernel)
  have n2:=ne "bytearray.__mod__" (by decide+kernel)
  have n3:=ne "bytearray.__rmod__" (by decide+kernel)
  have n4:=ne "_struct.pack_into.held" (by decide+kernel)
  have n5:=ne "bytearray.find.held" (by decide+kernel)
  clear h1 h2 ne h hg
  delta Builtin.Bytes.exported.match_1
  refine (dif_neg n1).trans ((dif_neg n2).trans ((dif_neg n3).trans ((dif_neg n4).trans ((dif_neg n5).trans ?_))))
  cases l with
  |nil=>rfl
  |cons v l=>exact (congrArg _ hd).trans (Bool.and_false _)
 |_=>rfl
theorem nA (hg:A.guards=some [])(ho:s.heap.get? D=some (eP dm))(h:Q () s):aG (model prog w) A (Builtin.Bytes.checkResize (.ref D)) Q E s:=by
 unfold Builtin.Bytes.checkResize
 refine ag ?_
 unfold orM
 refine ag (tu hg ?_)
 show aG _ _ (do let n<-Builtin.Bytes.exportsOf (.ref D);pure (decide (n>0))) _ _ _
 refine ag ?_
 unfold Builtin.Bytes.exportsOf
 refine ag (ap (wpAny_load ho ?_))
 exact aq (aq (aq h))
theorem mR (ho:s.heap.get? D=some (eP dm))(hz:(f dm).size<=sizeLine)
  (h:∀h',Heap.SameBut D s.heap h'->h'.get? D=some (eP (f dm))->Q () {s with heap:=h' }):wpAny (model prog w) A (Builtin.Bytes.write (.ref D) f) Q E s:=by
 show wpAny _ _ (updateBytearray D f) _ _ _
 unfold updateBytearray
 refine ar (wpAny_load ho ?_)
 show wpAny _ _ (update D (Obj.mapBytearray f)>>=λu8=>lookBehind D) _ _ _
 refine ar (wpAny_update ho ?_)
 have hS:(s.heap.update D (Obj.mapBytearray f)).get? D=some (eP (f dm)):=Heap.get?_update_self (Obj.mapBytearray f) ho rfl
 refine wpAny_lookBehind hS ?_ (h _ (Heap.SameBut.update ..) hS)
 show (if (f dm).size>sizeLine then some "bytearray:memory" else none)=none
 rw [if_neg (by lia)]
theorem Db (hg:A.guards=some [])(ho:s.heap.get? D=some (eP dm))(h0:0<=i)(h1:i<256)(hz:dm.size+1<=sizeLine)
  (h:∀h',Heap.SameBut D s.heap h'->h'.get? D=some (eP (dm.push i.toNat.toUInt8))->Q .none {s with heap:=h' }):aG (model prog w) A (call (.builtin "bytearray.append") [.ref D, .int i t]) Q E s:=by
 refine qG my (el ho) re (by decide+kernel) (tD _ _) ?_
 show aG _ _ (Builtin.Bytes.byteValue (.int i t)>>=λc=>_) _ _ _
 refine ag ?_
 unfold Builtin.Bytes.byteValue
 refine ag (ap (db (rfl:asIndex (.int i t)=pure i) (show aG _ _ _ _ _ _ from ?_)))
 have e:(decide (i<0)||decide (i≥256))=false:=by simp;lia
 rw [e]
 refine aq ?_
 refine ag (nA hg ho ?_)
 refine ag (ap (mR ho (by rw [Array.size_push];exact hz) λh' hs hS=> ?_))
 exact aq ⟨_,rfl,h h' hs hS⟩
theorem jh:typeLookup (.type "bytes") "__buffer__"=pure (some (.builtin "bytes.__buffer__")):=by rw [gS,gQ];kernel_rfl
theorem zX:typeLookup (.type "bytes") "__release_buffer__"=pure none:=by rw [gS,gQ];kernel_rfl
theorem nh (h:Q true s):wpAny (model prog w) A (Builtin.Bytes.slotIsOwn (.bytes b t) "__buffer__") Q E s:=by
 unfold Builtin.Bytes.slotIsOwn
 refine ar (fo (dT _ _ _) jh ?_)
 show wpAny _ _ (if (!("bytes.__buffer__".endsWith ("."++ "__buffer__")))=true then _ else _) _ _ _
 rw [if_neg (by decide+kernel)]
 show wpAny _ _ (isInstance (.bytes b t) (.type ("bytes.__buffer__".dropRight ("__buffer__".length+1)))) _ _ _
 rw [show "bytes.__buffer__".dropRight ("__buffer__".length+1)= "bytes" by decide+kernel]
 exact wpAny_isInstance (dT _ _ _) F.sub_bytes_bytes h
theorem wq {id:String}(h:Q (some b) s):wpAny (model prog w) A (Builtin.Bytes.buffer? id (.bytes b t) full) Q E s:=by
 unfold Builtin.Bytes.buffer?
 refine ar (fo (dT _ _ _) jh ?_)
 refine ar (nh ?_)
 refine bm_if_false rfl ?_
 refine ar (fo (dT _ _ _) jh ?_)
 refine ar (ar ?_)
 unfold Builtin.Bytes.slotIsOwn
 refine ar (fo (dT _ _ _) zX (bu (bu ?_)))
 refine bm_if_false rfl ?_
 exact ar (ar (bu (bu (bu h))))
theorem B7 (hg:A.guards=some [])(ho:s.heap.get? D=some (eP dm))(hz:(dm++b).size<=sizeLine)
  (h:∀h',Heap.SameBut D s.heap h'->h'.get? D=some (eP (dm++b))->Q .none {s with heap:=h' }):aG (model prog w) A (call (.builtin "bytearray.extend") [.ref D, .bytes b t]) Q E s:=by
 refine qG mB (el ho) rh (by decide+kernel) (tX _ _) ?_
 show aG _ _ (specialOf (.bytes b t) "__buffer__">>=λr=>_) _ _ _
 refine ag (ap (fo (dT _ _ _) jh (show aG _ _ _ _ _ _ from ?_)))
 show aG _ _ (rule _>>=λu8=>Builtin.Bytes.payload (.ref D)>>=λu8=>_) _ _ _
 refine ag (ap (wpAny_rule (show aG _ _ _ _ _ _ from ?_)))
 refine ag (ap ?_)
 unfold Builtin.Bytes.payload Builtin.Bytes.payload?
 refine ar (ar (wpAny_load ho (bu (bu (show aG _ _ _ _ _ _ from ?_)))))
 refine ag (ap ?_)
 unfold Builtin.Bytes.takeBufferQuiet?
 refine ar (wpAny_attempt ?_)
 unfold Builtin.Bytes.takeBuffer?
 refine ar (fo (dT _ _ _) jh ?_)
 refine ar (nh ?_)
 refine bm_if_false rfl ?_
 refine ar (fo (dT _ _ _) jh ?_)
 refine ar (wq ?_)
 refine bu (bu (show aG _ _ _ _ _ _ from ?_))
 have fin:∀s' :Shared,s' =s->aG (model prog w) A.in1 (Builtin.Bytes.write (.ref D) (·++b)>>=λu8=>ret .none) (λfin s' =>∃v,fin= .done (.ret v)/\Q v s') E s' :=λs' e=>by
  subst e
  exact ag (ap (mR ho hz λh' hs hS=>aq ⟨_,rfl,h h' hs hS⟩))
 show aG _ _ (if (!b.isEmpty)=true then _ else _) _ _ _
 split
 ·exact ag (nA hg ho (fin _ rfl))
 ·exact fin _ rfl
end
theorem z4:mroOf (.type "bytearray")=pure [.type "bytearray", .type "object"]:=by rw [mroOf_type];kernel_rfl
theorem uq:typeLookup (.type "bytearray") "__new__"=pure (some (.builtin "bytearray.__new__")):=by rw [gS,gQ];kernel_rfl
theorem jc:Slot "bytearray" "__init__" "bytearray.__init__":=
 .of (owner:= "bytearray") (n:= "__init__") (by rw [gS,gQ];kernel_rfl) (by decide+kernel) (by decide+kernel) (by decide+kernel)
  (by first|exact .inl (by decide+kernel)|exact .inr (by decide+kernel)) (by rw [isSubtype_type];kernel_rfl)
theorem uG:entryFor table "bytearray.__init__"=some Builtin.«bytearray.__init__»:=entryFor_of_tree (by kernel_rfl)
theorem wR (a:Value):argsOk "bytearray.__init__" ⟨[a], []⟩:=by
 unfold argsOk;rw [signature?_of (id:= "bytearray.__init__") (n:= ['_', '_', 't', 'i', 'n', 'i', '_', '_']) (o:= ['y', 'a', 'r', 'r', 'a', 'e', 't', 'y', 'b']) (by kernel_rfl) sk];kernel_rfl
theorem uS:TypeCalled "bytearray" "bytearray.__new__" "bytearray.__init__":=
 ⟨by decide+kernel,by decide+kernel,⟨_,_,z4⟩,madeBy_type z4 uq (by decide+kernel),by decide+kernel,by rw [isSubtype_type];kernel_rfl,jc⟩
theorem x7:checkTypeCall "bytearray" ⟨[], []⟩=pure ():=by kernel_rfl
theorem Av:checkBuiltinCall "bytearray.__new__" ⟨[.type "bytearray"], []⟩=pure ():=by kernel_rfl
theorem wy:entryFor table "bytearray.__new__"=some Builtin.«list.__new__»:=by
 first|exact entryFor_alias (id' := "list.__new__") (by kernel_rfl) rfl (by decide+kernel) (by kernel_rfl)|exact entryFor_of_tree (by kernel_rfl)|exact entryFor_of_fast (by kernel_rfl)
theorem oS:plainId "bytearray.__new__"=true:=by decide+kernel
set_option maxHeartbeats 4000000 in
theorem wA:("bytearray.__new__".splitOn ".__new__").headD ""= "bytearray":=by simp+decide [String.splitOn,String.splitOnAux]
theorem jJ:isSubtype (.type "bytearray") (.type "bytearray")=pure true:=by rw [isSubtype_type];kernel_rfl
theorem yd:typeLookup (.type "bytearray") "__release_buffer__"=pure (some (.builtin "bytearray.__release_buffer__")):=by rw [gS,gQ];kernel_rfl
theorem F9:Builtin.Bytes.bindOptional "bytearray.__init__" "bytearray" ["source", "encoding", "errors"] [] []=pure [none,none,none]:=by kernel_rfl
section
variable {prog:Program}{w:World}{A:Around}{E:Value->Shared->Prop}{s:Shared}{D:Addr}{dm:Array UInt8}
theorem gX {α:Type}{a b:Sem α}{Q:α->Shared->Prop}(hc:c=false)(h:aG M A b Q E s):aG M A (if c=true then a else b) Q E s:=by
 subst hc;exact h
theorem Qd {α:Type}{a b:Sem α}{Q:α->Shared->Prop}(hc:c=true)(h:aG M A a Q E s):aG M A (if c=true then a else b) Q E s:=by
 subst hc;exact h
theorem wZ (h:Q₁ (.ref s.heap.objs.size) {s with heap:=s.heap.push (eP #[])}):
  codeAny (model prog w) A (.call (.builtin "bytearray.__new__") ⟨[.type "bytearray"], []⟩) (wants Q₁ E) s:=by
 refine codeAny_of_tree ?_
 show wpAny _ A.in1 (do checkBuiltinCall "bytearray.__new__" ⟨[.type "bytearray"], []⟩;again (.builtin "bytearray.__new__" ⟨[.type "bytearray"], []⟩)) _ _ s
 refine ar (db Av (bu ⟨plainId_quiet oS _,codeAny_builtin_stack wy rfl λp st=> ?_⟩))
 rw [Around.under_plainId oS _]
 have RX:=jJ
 have Tu:=wA
 obtain ⟨hp,g,d,tk,os⟩:=s
 simp only [Tu]
 wp_walk
 exact h
theorem nQ (ho:s.heap.get? D=some (eP dm))(h:Q false s):wpAny (model prog w) A (Builtin.Bytes.ownRelease (.ref D)) Q E s:=by
 unfold Builtin.Bytes.ownRelease Builtin.Bytes.slotIsOwn
 refine ar (ar (fo (el ho) yd ?_))
 refine bm_if_false (by decide+kernel) ?_
 show wpAny _ _ (isInstance (.ref D) (.type ("bytearray.__release_buffer__".dropRight ("__release_buffer__".length+1)))) _ _ _
 rw [show "bytearray.__release_buffer__".dropRight ("__release_buffer__".length+1)= "bytearray" by decide+kernel]
 exact wpAny_isInstance (el ho) jJ (bu h)
theorem Iw (hg:A.guards=some [])(ho:s.heap.get? D=some (eP #[]))(h:∀h',Heap.SameBut D s.heap h'->h'.get? D=some (eP #[])->Q .none {s with heap:=h' }):
  aG (model prog w) A (call (.builtin "bytearray.__init__") [.ref D]) Q E s:=by
 refine qG jc (el ho) uG (by decide+kernel) (wR _) ?_
 unfold Builtin.«bytearray.__init__»
 show aG _ _ (Builtin.Bytes.ownRelease (.ref D)>>=λr=>_) _ _ _
 refine ag (ap (nQ ho (show aG _ _ _ _ _ _ from ?_)))
 refine gX rfl ?_
 refine ag (ap (db F9 (show aG _ _ _ _ _ _ from ?_)))
 refine ag (aq ?_)
 refine ag (aq ?_)
 refine ag ?_
 unfold orM
 refine ag (tu hg ?_)
 show aG _ _ (do let n<-Builtin.Bytes.exportsOf (.ref D);pure (decide (n>0))) _ _ _
 refine ag ?_
 unfold Builtin.Bytes.exportsOf
 refine ag (ap (wpAny_load ho ?_))
 refine aq (aq (gX rfl ?_))
 refine ag (ap (mR ho (Nat.zero_le _) λh' hs hS=> ?_))
 exact ag (aq (aq ⟨_,rfl,h h' hs hS⟩))
theorem JR (hg:A.guards=some [])(h:∀h',Heap.SameBut s.heap.objs.size (s.heap.push (eP #[])) h'->h'.get? s.heap.objs.size=some (eP #[])->Q (.ref s.heap.objs.size) {s with heap:=h' }):
  aG (model prog w) A (call (.type "bytearray") []) Q E s:=by
 refine jl (dI ?_)
 show aG _ _ (callAny (.type "bytearray") ⟨[], []⟩) _ _ _
 refine aq ⟨Code.quiet_builtin _ (by decide+kernel),rfl,ny F.entry_type_call ?_⟩
 rw [Around.under_plain (weight_type_call_type "bytearray" [] []) rfl]
 show aG _ _ (Builtin.«type.__call__» ⟨[.type "bytearray"], []⟩) _ _ _
 unfold Builtin.«type.__call__»
 refine gX (by decide+kernel) ?_
 refine gX uS.canCreate ?_
 refine ag (ap (db x7 (show aG _ _ _ _ _ _ from ?_)))
 refine ag (ap (db z4 (show aG _ _ _ _ _ _ from ?_)))
 refine gX rfl ?_
 refine ag (ap (db uS.made (show aG _ _ _ _ _ _ from ?_)))
 refine ag (aq ?_)
 have hS:(s.heap.push (eP #[])).get? s.heap.objs.size=some (eP #[]):=Heap.get?_push_size _ rfl
 refine ag (aD (ap (wpAny_call (codeAny_mono (wZ (E:=λu8 u8=>False) (Q₁:=λv s₁=>v= .ref s.heap.objs.size/\s₁={s with heap:=s.heap.push (eP #[])}) ⟨rfl,rfl⟩) λr s₁ hr=> ?_))))
 cases r with
 |error e=>exact hr.elim
 |ok f=>
  cases f with
  |ret v=>
   obtain ⟨rfl,rfl⟩:=hr
   show aG _ _ _ _ _ _
   refine ag (ap (wpAny_isInstance (el (s:={s with heap:=s.heap.push (eP #[])}) hS) jJ (show aG _ _ _ _ _ _ from ?_)))
   refine gX rfl ?_
   refine ag (aD ?_)
   unfold callSpecial?
   refine ag (ap (fo (el (s:={s with heap:=s.heap.push (eP #[])}) hS) jc.lookup (show aG _ _ _ _ _ _ from ?_)))
   dsimp only
   rw [jc.bind]
   refine aD (ag (aq (ag (gG (Iw hg hS λh' hs sK=> ?_) (λu8 u8 x=>x) λu8 u8 x=>x))))
   refine aq ?_
   refine gX rfl ?_
   exact aq (h h' hs sK)
  |_=>exact hr.elim
end
theorem Le:isSubtype (.type "dict") (.type "dict")=pure true:=by rw [isSubtype_type];kernel_rfl
theorem Ek:splitId "dict.__len__"=some ("dict", "__len__"):=by decide+kernel
section
variable {prog:Program}{w:World}{A:Around}{E:Value->Shared->Prop}{s:Shared}{d:Addr}
theorem Cy (hT:s.TypeIs (.ref d) "dict")(h:Q false s):wpAny (model prog w) A (Builtin.List.listLengthHint (.ref d)) Q E s:=by
 unfold Builtin.List.listLengthHint
 refine ar (fo hT F.slot_dict_len.lookup ?_)
 dsimp only
 rw [Ek]
 dsimp only
 refine ar (wpAny_isInstance hT Le ?_)
 refine bm_if_false rfl ?_
 refine bm_if_true (by decide+kernel) ?_
 refine ar (wpAny_typeOf hT ?_)
 exact bu h
variable {K:Type}[DecidableEq K]{knd:PySem.KeyKind prog w K}
theorem wk {kvs:List (K×Value)}(hh:A.handled=none)(lo:(d==sysModules)=false)(hd:s.heap.DictAt knd d kvs ep)(hz:kvs.length<=4096)
  (h:∀h' tk d6,(∀b o,s.heap.get? b=some o->h'.get? b=some o)->ItemsOf (λi v=>∃k x,kvs[i]? =some (k,x)/\knd.is k v=true) d6 kvs.length->Q d6.toList {s with heap:=h',toks:=tk}):
  wpAny (model prog w) A (collect (.ref d)) Q E s:=by
 unfold collect
 refine ar (wpAny_runValue (codeAny_builtin entry_proto_collect' ?_))
 show wpAny _ _ (do again (.builtin "list.__iadd__" ⟨[<-newList [], .ref d], []⟩)) _ _ s
 refine ar (wpAny_newList (bu ⟨Code.quiet_builtin _ (by decide+kernel),codeAny_builtin entry_list_iadd' ?_⟩))
 show wpAny _ _ (Builtin.List.listExtendWith (.ref s.heap.objs.size) (.ref d) (.ref s.heap.objs.size)) _ _ {s with heap:=s.heap.push (seqObj "list" #[] 0)}
 have hS:(s.heap.push (seqObj "list" #[] 0)).get? s.heap.objs.size=some (seqObj "list" #[] 0):=Heap.get?_push_size _ rfl
 have Q2:(s.heap.push (seqObj "list" #[] 0)).DictAt knd d kvs ep:=hd.at' λo e=>fL _ e
 have hT:({s with heap:=s.heap.push (seqObj "list" #[] 0)}:Shared).TypeIs (.ref d) "dict":=Q2.dictOf.typeIs
 obtain ⟨od,XX⟩:∃o,s.heap.get? d=some o:=let ⟨o,es,ho,_⟩:=hd;⟨o,ho⟩
 have Np:(d:Nat)<s.heap.objs.size:=Heap.lt_size XX
 have SY:s.heap.objs.size≠d:=Nat.ne_of_gt Np
 generalize VB:s.heap.push (seqObj "list" #[] 0)=h1 at hS Q2 hT⊢
 have Jy:h1.objs.size=s.heap.objs.size+1:=by rw [<-VB];exact Heap.size_push _ _
 have E5:∀b o,s.heap.get? b=some o->h1.get? b=some o:=λb o e=>by rw [<-VB];exact fL _ e
 unfold Builtin.List.listExtendWith
 refine ar (wpAny_typeOf hT ?_)
 refine bm_if_false (by
  have:Builtin.List.listSameRef (.ref s.heap.objs.size) (.ref d)=false:=by simp [Builtin.List.listSameRef,SY]
  rw [this];decide) ?_
 refine ar (wpAny_pyIter_dict lo Q2 ?_)
 have Te:=fL {cls:= .type "dict_keyiterator",data:= .fields #[.ref d, .int 0 0, .int kvs.length 0, .int ep 0]} hS
 have hd2:(h1.push {cls:= .type "dict_keyiterator",data:= .fields #[.ref d, .int 0 0, .int kvs.length 0, .int ep 0]}).DictAt knd d kvs ep:=Q2.at' λo e=>fL _ e
 refine ar (wpAny_holding (Cy (s:={s with heap:=h1.push {cls:= .type "dict_keyiterator",data:= .fields #[.ref d, .int 0 0, .int kvs.length 0, .int ep 0]}}) hd2.dictOf.typeIs ?_))
 have hI:(h1.push {cls:= .type "dict_keyiterator",data:= .fields #[.ref d, .int 0 0, .int kvs.length 0, .int ep 0]}).IsKeyIter h1.objs.size d 0 kvs.length ep:=⟨_,Heap.get?_push_size _ rfl,rfl,rfl⟩
 refine bm_if_true (by decide+kernel) ?_
 refine ar (wpAny_rule ?_)
 have lF:d≠h1.objs.size:=by rw [Jy];exact cW (Nat.lt_succ_of_lt Np)
 have W:=(Walks.dictKeys (prog:=prog) (w:=w) (A:=A.in1) (knd:=knd) hh h1.objs.size d lF kvs ep).toS
 have Xp:s.heap.objs.size∉ [h1.objs.size,d]:=λhm=>by
  rcases cH hm with e|hm
  ·rw [Jy] at e;exact absurd e (cW (Nat.lt_succ_self _))
  ·exact SY (eF hm)
 generalize Y8:h1.push {cls:= .type "dict_keyiterator",data:= .fields #[.ref d, .int 0 0, .int kvs.length 0, .int ep 0]}=h2 at Te hd2 hI⊢
 have Jh:∀b o,h1.get? b=some o->h2.get? b=some o:=λb o e=>by rw [<-Y8];exact fL _ e
 refine ar ?_
 show wpAny _ _ (updateSeq s.heap.objs.size (·.push .none)>>=λu8=>updateSeq s.heap.objs.size (·.pop)) _ _ _
 refine ar (wpAny_updateSeq Te rfl ?_)
 have U0:=Heap.get?_update_self (Obj.mapSeq (·.push Value.none)) Te rfl
 refine wpAny_updateSeq (hz:=by seq_fits) U0 rfl ?_
 have VO:=Heap.get?_update_self (Obj.mapSeq (·.pop)) U0 rfl
 have Su:∀b o,b≠s.heap.objs.size->h2.get? b=some o->((h2.update s.heap.objs.size (Obj.mapSeq (·.push Value.none))).update s.heap.objs.size (Obj.mapSeq (·.pop))).get? b=some o:=
  λb o hb e=>(Heap.get?_update_other _ _ (Ne.symm hb)).trans ((Heap.get?_update_other _ _ (Ne.symm hb)).trans e)
 have I1:=hI.at (h' :=(h2.update s.heap.objs.size (Obj.mapSeq (·.push Value.none))).update s.heap.objs.size (Obj.mapSeq (·.pop))) λo e=>Su _ o (by rw [Jy];exact Nat.ne_of_gt (Nat.lt_succ_self _)) e
 have XE:=hd2.at' (h' :=(h2.update s.heap.objs.size (Obj.mapSeq (·.push Value.none))).update s.heap.objs.size (Obj.mapSeq (·.pop))) λo e=>Su _ o (Ne.symm SY) e
 refine bu ⟨plainId_quiet F.plain_extend_loop _,codeAny_extend_loopS W (by rw [eT];exact lA ‹_› rfl) s.heap.objs.size Xp _ kvs.length 0 _ #[] _ rfl (Nat.zero_le _) ⟨I1,XE⟩ VO (ItemsOf.nil _) λs' C7 c' hm MU kL=> ?_⟩
 show wpAny (model prog w) A (do
   let o<-load s.heap.objs.size
   match o.data with
   | .seq xs _=>pure xs.toList
   |_=>unsupported "internal:collect") Q E s'
 refine ar (wpAny_load MU (bu ?_))
 rw [Moved.eq_with hm]
 refine h s'.heap s'.toks C7 (λb o e=>hm.heap b o (λtw=> ?_) (Su b o (cW (Heap.lt_size e)) (Jh b o (E5 b o e)))) kL
 have lt:(b:Nat)<s.heap.objs.size:=Heap.lt_size e
 rcases cH tw with e' |tw
 ·exact absurd e' (cW lt)
 ·have e' :=eF tw
  rw [Jy] at e'
  exact absurd e' (cW (Nat.lt_succ_of_lt lt))
end
theorem wJ:∀a b:List UInt8,ig (a.map λc=>(c.toNat:Int)) (b.map λc=>(c.toNat:Int))=decide (a.map UInt8.toNat<b.map UInt8.toNat)
 | [], []=>by simp [ig]
 | [],_::_=>by simp [ig]
 |_::_, []=>by simp [ig]
 |x::a,y::b=>by
  have ih:=wJ a b
  simp only [dY,ig]
  by_cases h1:(x.toNat:Int)<y.toNat
  ·have:x.toNat<y.toNat:=by lia
   simp [h1,List.cons_lt_cons_iff,this]
  ·rw [if_neg h1]
   by_cases h2:(x.toNat:Int)=y.toNat
   ·have:x.toNat=y.toNat:=by lia
    rw [if_pos h2,ih]
    simp [List.cons_lt_cons_iff,this]
   ·have n1:¬x.toNat<y.toNat:=by lia
    have n2:¬x.toNat=y.toNat:=by lia
    rw [if_neg h2]
    simp [List.cons_lt_cons_iff,n1,n2]
noncomputable def lV:Value->List UInt8
 | .bytes b _=>b.toList
 |_=> []
@[reducible] def kM:PyProof.Rows.KeyKind where
 α:=List Nat
 blt a b:=decide (a<b)
 irrefl a:=by simpa using List.lt_irrefl a
 trans a b c h1 h2:=by simp only [decide_eq_true_eq] at*;exact List.lt_trans h1 h2
 negTrans a b c h:=by
  simp only [decide_eq_true_eq] at*
  by_cases Kr:a<b
  ·exact .inl Kr
  ·exact .inr (List.lt_of_le_of_lt (List.not_lt.mp Kr) h)
 total a b h1 h2:=by simp only [decide_eq_false_iff_not] at*;exact List.le_antisymm (List.not_lt.mp h2) (List.not_lt.mp h1)
 keyOf v:=match v with| .bytes b _=>some (b.toList.map UInt8.toNat)|_=>none
 dflt:= []
section
variable {prog:Program}{w:World}{A:Around}{E:Value->Shared->Prop}{s:Shared}
theorem uB (h:Q (.bool (decide (a.toList.map UInt8.toNat<b.toList.map UInt8.toNat))) s):
  wpAny (model prog w) A (call (.builtin "bytes.__lt__") [.bytes a t, .bytes b u]) Q E s:=
 call_gives j1 (dT s a t) mt (nM _ _) (mh a b t u) (by rw [<-wJ] at h;rw [KBw.ints_list,KBw.ints_list];exact h)
theorem xA (h:Q (decide (a.toList.map UInt8.toNat<b.toList.map UInt8.toNat)) s):wpAny (model prog w) A (oneLt' true (.bytes a t) (.bytes b u)) Q E s:=by
 rw [oneLt'_eq]
 simp only [if_true]
 refine ar (wpAny_cRoomFor_byValue rfl ?_)
 refine ar (wpAny_callSpecialIfBound?_slot (dT s a t) j1 (uB ?_))
 exact wpAny_truthy_bool h
theorem uf:kM.OneLt:=by
 intro prog w A E s x y a b Q ha hb h
 cases x<;>simp only [kM,reduceCtorEq,Option.some.injEq] at ha
 cases y<;>simp only [kM,reduceCtorEq,Option.some.injEq] at hb
 cases ha;cases hb
 exact xA h
end
noncomputable def j3 (vs:List Value):Prop:=∀v∈vs,∃b t,v= .bytes b t
theorem j3.keys (h:j3 vs):PyProof.Rows.KeysOf kM (pairsOf vs):=by
 intro p hp
 rw [pairsOf_toList] at hp
 refine zx (h _ (mem_zip_self hp).2) λb t e=> ?_
 exact ⟨b.toList.map UInt8.toNat,by rw [e]⟩
theorem lS:∀{vs:List Value},j3 vs->vs.mapM firstOfTuple' =pure (vs.map λu8=>none)
 | [],_=>by simp
 |v::vs,h=>by
  refine zx (h v (.head _)) λb t de=> ?_;subst de
  rw [List.mapM_cons,show firstOfTuple' (.bytes b t)=pure none from rfl,lS λv hv=>h v (.tail _ hv)];simp
theorem lz:∀{vs:List Value},j3 vs->vs.mapM typeOf=pure (vs.map λu8=>Value.type "bytes")
 | [],_=>by simp
 |v::vs,h=>by
  refine zx (h v (.head _)) λb t de=> ?_;subst de
  rw [List.mapM_cons,lz λv hv=>h v (.tail _ hv)]
  show (pure (Value.type "bytes")>>=λb=>pure _>>=λbs=>pure (b::bs))=_
  simp
theorem xB (h:j3 (v₁::v₂::vs)):keyKind' (v₁::v₂::vs).toArray=pure oneType' :=by
 rw [keyKind'_eq,List.mapM_toArray,lS h]
 simp only [map_pure,pure_bind]
 rw [if_neg (by simp),if_neg (by simp)]
 rw [oneTypeOnly'_eq,List.mapM_toArray,lz h]
 simp only [map_pure,pure_bind]
 have og:((List.map (λu8=>Value.type "bytes") (v₁::v₂::vs)).toArray.all λx=>x==Value.type "bytes")=true:=by
  simp only [List.all_toArray,List.all_map,List.all_eq_true]
  intro _ _
  rfl
 have h0:(List.map (λu8=>Value.type "bytes") (v₁::v₂::vs)).toArray[0]? =some (Value.type "bytes"):=by simp
 rw [h0]
 simp only [og,if_true,pure_bind,Option.isSome_some]
theorem JP (h:j3 vs){xs:Array Keyed}(hp:xs.Perm (pairsOf vs))(hs:SortedToK kM xs (pairsOf vs).size):
  j3 (xs.map (·.2)).toList/\((xs.map (·.2)).toList.map lV).Perm (vs.map lV)/\((xs.map (·.2)).toList.map lV).Pairwise λa b=>decide (b.map UInt8.toNat<a.map UInt8.toNat)=false:=by
 have hl:xs.toList.Perm (vs.zip vs):=by rw [<-pairsOf_toList];exact Array.perm_iff_toList_perm.mp hp
 have tw:∀p,p∈xs.toList->p.1=p.2/\p.1∈vs:=λp Kn=>mem_zip_self (hl.mem_iff.mp Kn)
 have e:(xs.map (·.2)).toList=xs.toList.map (·.1):=by
  rw [Array.toList_map];exact List.map_congr_left λp Kn=>(tw p Kn).1.symm
 rw [e]
 refine ⟨λv hv=> ?_, ?_, ?_⟩
 ·refine aZ (gD hv) λp Kn de=> ?_;subst de
  exact h _ (tw p Kn).2
 ·refine List.Perm.map _ ?_
  have:=hl.map Prod.fst
  rwa [List.map_fst_zip (bS _)] at this
 ·rw [List.map_map,List.pairwise_map,List.pairwise_iff_getElem]
  intro i j hi hj Sj
  have Nw:i<xs.size:=by simpa using hi
  have Q9:j<xs.size:=by simpa using hj
  have h1:=hs i j (Nat.le_of_lt Sj) (by rw [<-hp.size_eq];exact Q9)
  refine zx (h _ (tw xs[i] (by simp)).2) λx t ex=> ?_
  refine zx (h _ (tw xs[j] (by simp)).2) λy u ey=> ?_
  have k1:KK kM xs i=x.toList.map UInt8.toNat:=by unfold KK;rw [getElem?_pos xs i Nw,show xs[i]=(.bytes x t,xs[i].2) from Prod.ext ex rfl];rfl
  have k2:KK kM xs j=y.toList.map UInt8.toNat:=by unfold KK;rw [getElem?_pos xs j Q9,show xs[j]=(.bytes y u,xs[j].2) from Prod.ext ey rfl];rfl
  rw [k1,k2] at h1
  change decide (y.toList.map UInt8.toNat<x.toList.map UInt8.toNat)=false at h1
  simp only [Function.comp,Array.getElem_toList]
  have z1:lV xs[i].1=x.toList:=by rw [ex];rfl
  have z2:lV xs[j].1=y.toList:=by rw [ey];rfl
  simp only [z1,z2]
  exact h1
section
variable {prog:Program}{w:World}{A:Around}{E:Value->Shared->Prop}{s:Shared}{d:Addr}{K:Type}[DecidableEq K]{knd:PySem.KeyKind prog w K}
theorem xy {kvs:List (K×Value)}(hh:A.handled=none)(lo:(d==sysModules)=false)(hd:s.heap.DictAt knd d kvs ep)(hz:kvs.length<64)(hk:∀k v,knd.is k v=true->∃b t,v= .bytes b t)
  (h:∀(h₁ h' :Heap) (tk:Nat) (vs:List Value) (out:Array Value) (e:Nat),(∀b o,s.heap.get? b=some o->h₁.get? b=some o)->(∀b o,h₁.get? b=some o->h'.get? b=some o)->h'.get? h₁.objs.size=some (seqObj "list" out e)->ItemsOf (λi v=>∃k x,kvs[i]? =some (k,x)/\knd.is k v=true) (List.toArray vs) kvs.length->
   j3 out.toList->(out.toList.map lV).Perm (vs.map lV)->(out.toList.map lV).Pairwise (λa b=>decide (b.map UInt8.toNat<a.map UInt8.toNat)=false)->Q (.ref h₁.objs.size) {s with heap:=h',toks:=tk}):
  wpAny (model prog w) A (call (.builtin "sorted") [.ref d]) Q E s:=by
 refine Calls.call_function_entry kind_sorted plain_sorted entry_sorted (args_sorted1 _) ?_
 unfold Builtin.«sorted»
 refine ar (m:=checkCount "sorted" 1 1 _) (bu ?_)
 refine ar (wk hh lo hd (by exact lD ‹_› rfl) λh' tk d6 hold kL=> ?_)
 have og:j3 d6.toList:=λv hv=>by
  obtain ⟨j,hj,rfl⟩:=List.getElem_of_mem hv
  have Q9:j<d6.size:=by simpa using hj
  refine uz (kL.2 j d6[j] (getElem?_pos d6 j Q9)) λk x u8 W4=> ?_
  simpa using hk k _ W4
 have eA:d6.toList.length<64:=by have:=kL.1;simp;lia
 refine ar (wpAny_newList ?_)
 have Sd:(h'.push (seqObj "list" d6.toList.toArray 0)).get? h'.objs.size=some (seqObj "list" d6.toList.toArray 0):=Heap.get?_push_size _ rfl
 refine ar (wpAny_holding (wpAny_call_entry slot_list_sort ⟨_,Sd,rfl⟩ entry_list_sort (list_sort_treeK uf Sd og.keys (λv₁ v₂ aH e=>xB (by rw [<-e];exact og)) eA λWN a1 a2=>⟨_,rfl, ?_⟩) (args_list_sort _)))
 refine bu ⟨_,rfl, ?_⟩
 refine rm (JP og a1 a2) λb1 b2 b3=> ?_
 obtain ⟨e,he⟩:=sortedHeap_at (out:=(arrOf WN).map (·.2)) Sd
 refine h h' _ _ d6.toList _ e hold (λb o hb=> ?_) he (by rw [Array.toArray_toList];exact kL) b1 b2 b3
 have lt:(b:Nat)<h'.objs.size:=Heap.lt_size hb
 rw [sortedHeap_old (cW lt) (by rw [Heap.size_push];exact Nat.lt_succ_of_lt lt)]
 exact fL _ hb
end
theorem jN (h0:0<=a)(h1:a<=b)(h2:b<=4096):Builtin.Range.small a b 1=true:=by
 unfold Builtin.Range.small
 rw [rangeSize_nat]
 simp only [Builtin.Range.rangeFitsLong,Bool.and_eq_true,decide_eq_true_eq,Bool.or_eq_true]
 refine ⟨⟨⟨⟨⟨?_, ?_⟩, ?_, ?_⟩,by decide,by decide⟩, ?_, ?_⟩, .inr ?_⟩<;>first|lia|(rw [if_pos (by decide)];simp only [Bool.and_eq_true,decide_eq_true_eq];lia)
section
variable {prog:Program}{w:World}{A:Around}{E:Value->Shared->Prop}{s:Shared}{r:Addr}{a b:Int}{t u v:Tok}{n:Nat}
theorem ue (hh:A.handled=none)(hr:IsRange s.heap r a b 1 t u v)(hs:Builtin.Range.small a b 1=true)(hn:Builtin.Range.rangeSize a b 1=n)(hz:n<=4096)
  (h:∀(h' :Heap) (tk:Nat) (d6:Array Value),(∀b o,s.heap.get? b=some o->h'.get? b=some o)->ItemsOf (λi v=>∃t,v= .int (a+i*1) t) d6 n->Q d6.toList {s with heap:=h',toks:=tk}):wpAny (model prog w) A (collect (.ref r)) Q E s:=by
 have key:∀R:Result->Shared->Prop,(∀(h' :Heap) (tk:Nat) (C7:Array Value) (c' :Nat),(∀b o,b≠s.heap.objs.size->(s.heap.push (seqObj "list" #[] 0)).get? b=some o->h'.get? b=some o)->h'.get? s.heap.objs.size=some {cls:= .type "list",dict:=none,data:= .seq C7 c',slots:= #[]}->
   ItemsOf (λi v=>∃t,v= .int (a+i*1) t) C7 n->R (.ok (.ret (.ref s.heap.objs.size))) {s with heap:=h',toks:=tk})->codeAny (model prog w) A (.builtin "proto.collect" ⟨[.ref r], []⟩) R s:=λR hR=>by
  refine codeAny_builtin entry_proto_collect' ?_
  show wpAny _ _ (do again (.builtin "list.__iadd__" ⟨[<-newList [], .ref r], []⟩)) _ _ s
  refine ar (wpAny_newList (bu ⟨Code.quiet_builtin _ (by decide+kernel),codeAny_builtin entry_list_iadd' ?_⟩))
  rw [Around.under_plainId F.plain_list_iadd _]
  show wpAny _ _ (Builtin.List.listExtendWith (.ref s.heap.objs.size) (.ref r) (.ref s.heap.objs.size)) _ _ {s with heap:=s.heap.push (seqObj "list" #[] 0)}
  have hS:(s.heap.push (seqObj "list" #[] 0)).get? s.heap.objs.size=some {cls:= .type "list",data:= .seq #[] 0}:=Heap.get?_push_size _ rfl
  have F3:IsRange (s.heap.push (seqObj "list" #[] 0)) r a b 1 t u v:=fL _ hr
  exact wpAny_extend_range (A:=A) (R:=R) (s:={s with heap:=s.heap.push (seqObj "list" #[] 0)}) hh F3 hs hn (by exact lA ‹_› rfl) s.heap.objs.size _ 0 hS hR
 unfold collect
 refine ar (wpAny_runValue (key _ λh' tk C7 c' hk MU kL=> ?_))
 show wpAny (model prog w) A (do
   let o<-load s.heap.objs.size
   match o.data with
   | .seq xs _=>pure xs.toList
   |_=>unsupported "internal:collect") Q E _
 refine ar (wpAny_load MU (bu ?_))
 exact h h' tk C7 (λb o e=>hk b o (cW (Heap.lt_size e)) (fL _ e)) kL
theorem yV (hh:A.handled=none)(hr:IsRange s.heap r a b 1 t u v)(hs:Builtin.Range.small a b 1=true)(hn:Builtin.Range.rangeSize a b 1=n)(hz:n<=4096)
  (h:∀(h' :Heap) (tk:Nat) (d6:Array Value),(∀b o,s.heap.get? b=some o->h'.get? b=some o)->ItemsOf (λi v=>∃t,v= .int (a+i*1) t) d6 n->Q (.ref h'.objs.size) {s with heap:=h'.push {cls:= .type "tuple",data:= .seq d6},toks:=tk}):
  wpAny (model prog w) A (call (.type "tuple") [.ref r]) Q E s:=by
 refine callType_codes (Q₁:=λobj s₁=>s₁.TypeIs obj "tuple"/\Q obj s₁) F.called_tuple (F.typeCall_tuple_1 _) F.entry_object_init ?_ λobj s₁ h₁=>
  ⟨h₁.1,F.args_object_init_2 obj _,object_init_meets F.called_tuple.init.lookup F.called_tuple.made (by decide) prog w A.in1 _ s₁ ⟨h₁.1,rfl,h₁.2⟩⟩
 refine codeAny_of_tree ?_
 show wpAny _ A.in1.in1 (do checkBuiltinCall "tuple.__new__" ⟨[.type "tuple", .ref r], []⟩;again (.builtin "tuple.__new__" ⟨[.type "tuple", .ref r], []⟩)) _ _ s
 refine ar (db (F.newCall_tuple_1 _) (bu ⟨plainId_quiet F.plain_tuple_new _,codeAny_builtin F.entry_tuple_new ?_⟩))
 rw [Around.under_plainId F.plain_tuple_new _]
 have RX:=sub_tuple_self
 have VK:=init_tuple_lookup
 have Zx:=madeHere_tuple
 have hT:s.TypeIs (.ref r) "range":=⟨_,hr,rfl⟩
 obtain ⟨hp,g,d,tk,os⟩:=s
 wp_walk using wpAny_typeOf hT,ue (A:=A.in1.in1) hh hr hs hn hz
 intro h' XU d6 hk kL
 show wpAny _ _ (Builtin.Tuple.tupleExact d6.toList.toArray>>=λv=>ret v) _ _ _
 unfold Builtin.Tuple.tupleExact
 refine ar (wpAny_newObj_type ?_ (by show d6.toList.toArray.size<=sizeLine;simp only [Array.toArray_toList];rw [kL.1,eT];exact lA ‹_› rfl))
 refine bu ?_
 rw [Array.toArray_toList]
 exact ⟨⟨_,Heap.get?_push_size _ rfl,rfl⟩,h h' XU d6 hk kL⟩
end
theorem EJ:typeLookup (.type "bytes") "__bytes__"=pure (some (.builtin "bytes.__bytes__")):=by rw [gS,gQ];kernel_rfl
theorem x4:typeLookup (.type "bytearray") "__bytes__"=pure none:=by rw [gS,gQ];kernel_rfl
theorem xj:typeLookup (.type "bytearray") "__index__"=pure none:=by rw [gS,gQ];kernel_rfl
theorem oh:typeLookup (.type "bytearray") "__buffer__"=pure (some (.builtin "bytearray.__buffer__")):=by rw [gS,gQ];kernel_rfl
theorem yg:typeLookup (.type "range") "__bytes__"=pure none:=by rw [gS,gQ];kernel_rfl
theorem xe:typeLookup (.type "range") "__index__"=pure none:=by rw [gS,gQ];kernel_rfl
theorem oP:typeLookup (.type "range") "__buffer__"=pure none:=by rw [gS,gQ];kernel_rfl
theorem DU:splitId "range.__len__"=some ("range", "__len__"):=by decide+kernel
theorem Ld:isSubtype (.type "range") (.type "range")=pure true:=by rw [isSubtype_type];kernel_rfl
section
variable {prog:Program}{w:World}{A:Around}{E:Value->Shared->Prop}{s:Shared}
theorem ow
  (h:codeAny (model prog w) A.in1 (.call (.builtin "bytes.__new__") ⟨[.type "bytes",x], []⟩) (wants (λobj s₁=>s₁.TypeIs obj "bytes"/\Q obj s₁) E) s):wpAny (model prog w) A (call (.type "bytes") [x]) Q E s:=
 callType_codes (Q₁:=λobj s₁=>s₁.TypeIs obj "bytes"/\Q obj s₁) F.bm_called (F.bm_typeCall _) F.entry_object_init h λobj s₁ h₁=>
  ⟨h₁.1,F.args_object_init_2 obj _,object_init_meets F.bm_called.init.lookup F.bm_called.made (by decide) prog w A.in1 _ s₁ ⟨h₁.1,rfl,h₁.2⟩⟩
theorem tN (h:Q (.bytes b t) s):wpAny (model prog w) A (call (.type "bytes") [.bytes b t]) Q E s:=by
 refine ow (codeAny_of_tree ?_)
 show wpAny _ _ (do checkBuiltinCall "bytes.__new__" ⟨[.type "bytes", .bytes b t], []⟩;again (.builtin "bytes.__new__" ⟨[.type "bytes", .bytes b t], []⟩)) _ _ s
 refine ar (db (F.bm_newCall _) (bu ⟨plainId_quiet F.bm_plain _,codeAny_builtin F.bm_entry ?_⟩))
 rw [Around.under_plainId F.bm_plain _]
 unfold Builtin.«bytes.__new__»
 refine ar (db (a:=true) rfl ?_)
 refine bm_if_false rfl ?_
 refine ar (db F.bm_sub ?_)
 refine bm_if_false rfl ?_
 refine ar (db (F.bm_bind _) ?_)
 refine ar (db (a:=()) rfl ?_)
 refine ar (db (a:=()) rfl ?_)
 refine bm_if_false rfl ?_
 refine ar (fo (dT _ _ _) EJ ?_)
 refine ar (wpAny_rule ?_)
 refine ar (wpAny_typeOf (dT _ _ _) ?_)
 refine bm_if_true (by decide) ?_
 show wpAny _ _ (if (Value.type "bytes"==Value.type "bytes")=true then _ else _) _ _ _
 refine bm_if_true (by decide) ?_
 exact bu ⟨dT _ _ _,h⟩
theorem uo (ho:s.heap.get? D=some (eP dm))(hz:dm.size<=sizeLine)(h:∀t tk,Q (.bytes dm t) {s with toks:=tk}):wpAny (model prog w) A (call (.type "bytes") [.ref D]) Q E s:=by
 refine ow (codeAny_of_tree ?_)
 show wpAny _ _ (do checkBuiltinCall "bytes.__new__" ⟨[.type "bytes", .ref D], []⟩;again (.builtin "bytes.__new__" ⟨[.type "bytes", .ref D], []⟩)) _ _ s
 refine ar (db (F.bm_newCall _) (bu ⟨plainId_quiet F.bm_plain _,codeAny_builtin F.bm_entry ?_⟩))
 rw [Around.under_plainId F.bm_plain _]
 have hT:=el ho
 unfold Builtin.«bytes.__new__»
 refine ar (db (a:=true) rfl ?_)
 refine bm_if_false rfl ?_
 refine ar (db F.bm_sub ?_)
 refine bm_if_false rfl ?_
 refine ar (db (F.bm_bind _) ?_)
 refine ar (db (a:=()) rfl ?_)
 refine ar (db (a:=()) rfl ?_)
 refine bm_if_false rfl ?_
 refine ar (fo hT x4 ?_)
 refine ar (ar ?_)
 show wpAny _ _ (load D>>=_) _ _ _
 refine ar (wpAny_load ho ?_)
 refine bu (bu ?_)
 refine bm_if_false rfl ?_
 refine ar (fo hT xj ?_)
 refine bm_if_true rfl ?_
 first
  |show wpAny _ _ (Builtin.Bytes.buffer? "bytes.__new__" (.ref D) true>>=_) _ _ _
  |(refine ar ?_;show wpAny _ _ (Builtin.Bytes.buffer? "bytes.__new__" (.ref D) true>>=_) _ _ _)
 refine ar ?_
 unfold Builtin.Bytes.buffer?
 refine ar (fo hT oh ?_)
 refine ar ?_
 unfold Builtin.Bytes.slotIsOwn
 refine ar (fo hT oh ?_)
 refine bm_if_false (by decide+kernel) ?_
 show wpAny _ _ (isInstance (.ref D) (.type ("bytearray.__buffer__".dropRight ("__buffer__".length+1)))) _ _ _
 rw [show "bytearray.__buffer__".dropRight ("__buffer__".length+1)= "bytearray" by decide+kernel]
 refine wpAny_isInstance hT jJ ?_
 refine bm_if_false rfl ?_
 refine ar (fo hT oh ?_)
 refine ar (nQ ho ?_)
 refine bm_if_false rfl ?_
 refine ar ?_
 unfold Builtin.Bytes.payload Builtin.Bytes.payload?
 refine ar (ar (wpAny_load ho (bu (bu (bu ?_)))))
 refine ar (wpAny_rule ?_)
 refine ar (wpAny_mkBytes ?_ hz)
 show wpAny _ _ (if (Value.type "bytes"==Value.type "bytes")=true then _ else _) _ _ _
 refine bm_if_true (by decide) ?_
 first
  |exact bu ⟨dT _ _ _,h _ _⟩
  |exact ar (bu (bu ⟨dT _ _ _,h _ _⟩))
end
noncomputable def p8 (a:Int)(i:Nat):Array UInt8:=((List.range i).map λ(k:Nat)=>(a+(k:Int)).toNat.toUInt8).toArray
theorem Dl (a:Int)(i:Nat):p8 a (i+1)=(p8 a i).push (a+(i:Int)).toNat.toUInt8:=by
 unfold p8
 rw [List.range_succ,eJ]
 simp
theorem vF (a:Int)(i:Nat):(p8 a i).size=i:=by simp [p8]
section
variable {prog:Program}{w:World}{A:Around}{E:Value->Shared->Prop}{s:Shared}{r:Addr}{a b:Int}{t u v:Tok}{n:Nat}
theorem JN {R:Result->Shared->Prop}{I S:Addr}(hh:A.handled=none)(h0:0<=a)(h1:a+n<=256)(Sc:I≠S):
  ∀(k i:Nat) (s:Shared),n - i=k->i<=n->IsRangeIter s.heap I (a+(i:Nat)*1) ((n:Int) - (i:Nat)) 1->s.heap.get? S=some (eP (p8 a i))->
   (∀h' t k',(∀b o,b≠I->b≠S->s.heap.get? b=some o->h'.get? b=some o)->R (.ok (.ret (.bytes (p8 a n) t))) {s with heap:=h',toks:=k' })->
   codeAny (model prog w) A (.builtin "bytes.__new__.loop" ⟨[.type "bytes", .ref I, .ref S], []⟩) R s:=by
 have W:=Walks.range (prog:=prog) (w:=w) (A:=A.in1) hh I a 1 n
 intro k
 induction k with
 |zero=>
  intro i s hk hle hit hS hR
  have yM:i=n:=by lia
  subst yM
  refine codeAny_builtin F.bm_entry_loop ?_
  rw [Around.under_plainId F.bm_plain_loop _]
  show wpAny _ A.in1 (pyNext (.ref I)>>=_) _ _ s
  refine ar (W.done s _ _ hit λh' tk he=> ?_)
  have MU:h'.get? S=some (eP (p8 a i)):=he S _ (λhm=>Sc (eF hm).symm) hS
  refine ar ?_
  unfold Builtin.Bytes.payload Builtin.Bytes.payload?
  refine ar (ar (wpAny_load MU ?_))
  refine bu (bu ?_)
  refine ar (wpAny_mkBytes ?_ (by rw [vF,eT];lia))
  show wpAny _ _ (if (Value.type "bytes"==Value.type "bytes")=true then _ else _) _ _ _
  refine bm_if_true (by decide) ?_
  first
   |exact bu (hR h' _ _ λb o hb u8 e=>he b o (λhm=>hb (eF hm)) e)
   |exact ar (bu (bu (hR h' _ _ λb o hb u8 e=>he b o (λhm=>hb (eF hm)) e)))
 |succ k ih=>
  intro i s hk hle hit hS hR
  have lN:i<n:=by lia
  refine codeAny_builtin F.bm_entry_loop ?_
  rw [Around.under_plainId F.bm_plain_loop _]
  show wpAny _ A.in1 (pyNext (.ref I)>>=_) _ _ s
  refine ar (W.item i s _ _ lN hit λx h' tk hP Tc hs=> ?_)
  obtain ⟨t,rfl⟩:=hP
  rw [Int.mul_one]
  have MU:h'.get? S=some (eP (p8 a i)):=hs S _ (λhm=>Sc (eF hm).symm) hS
  refine ar (wpAny_holding (db (rfl:asIndex (.int (a+(i:Int)) t)=pure (a+(i:Int))) ?_))
  refine ar (wpAny_letGo ?_)
  refine bm_if_false (by simp only [Bool.or_eq_false_iff,decide_eq_false_iff_not];lia) ?_
  refine ar (mR MU (by rw [Array.size_push,vF,eT];lia) λZA Pb Qr=> ?_)
  rw [<-Dl] at Qr
  refine bu ⟨plainId_quiet F.bm_plain_loop _,ih (i+1) _ (by lia) lN ?_ Qr λh3 t' k' Sp=> ?_⟩
  ·exact (Pb.2 I Sc).trans Tc
  ·exact hR h3 t' k' λb o Vx U9 e=>Sp b o Vx U9 ((Pb.2 b U9).trans (hs b o (λhm=>Vx (eF hm)) e))
theorem pR (hr:IsRange s.heap r a b 1 t u v)(hn:Builtin.Range.rangeSize a b 1=n)(hz:n<=4096)(h:∀tk,Q () {s with toks:=tk}):wpAny (model prog w) A (Builtin.Bytes.lengthHint "bytes.__new__" (.ref r)) Q E s:=by
 have hT:s.TypeIs (.ref r) "range":=⟨_,hr,rfl⟩
 unfold Builtin.Bytes.lengthHint
 refine ar (fo hT F.slot_range_len.lookup ?_)
 dsimp only
 rw [DU]
 dsimp only
 refine ar (wpAny_isInstance hT Ld ?_)
 refine bm_if_false rfl ?_
 refine bm_if_false (by decide+kernel) ?_
 refine bm_if_true rfl ?_
 refine ar (wpAny_rule ?_)
 refine ar (wpAny_attempt (call_len_range hr hn (by lia) ?_))
 refine ar (m:=asInt? _) (bu ?_)
 refine bm_if_false (by show decide ((n:Int).toNat>sizeLine)=false;rw [eT,decide_eq_false_iff_not];lia) ?_
 exact bu (h _)
theorem sS (hh:A.handled=none)(hr:IsRange s.heap r a b 1 t u v)(hs:Builtin.Range.small a b 1=true)(hn:Builtin.Range.rangeSize a b 1=n)(h0:0<=a)(h1:a+n<=256)
  (h:∀(h' :Heap) (t:Tok) (tk:Nat),(∀b o,s.heap.get? b=some o->h'.get? b=some o)->Q (.bytes (p8 a n) t) {s with heap:=h',toks:=tk}):wpAny (model prog w) A (call (.type "bytes") [.ref r]) Q E s:=by
 refine ow (codeAny_of_tree ?_)
 show wpAny _ _ (do checkBuiltinCall "bytes.__new__" ⟨[.type "bytes", .ref r], []⟩;again (.builtin "bytes.__new__" ⟨[.type "bytes", .ref r], []⟩)) _ _ s
 refine ar (db (F.bm_newCall _) (bu ⟨plainId_quiet F.bm_plain _,codeAny_builtin F.bm_entry ?_⟩))
 rw [Around.under_plainId F.bm_plain _]
 have hT:s.TypeIs (.ref r) "range":=⟨_,hr,rfl⟩
 unfold Builtin.«bytes.__new__»
 refine ar (db (a:=true) rfl ?_)
 refine bm_if_false rfl ?_
 refine ar (db F.bm_sub ?_)
 refine bm_if_false rfl ?_
 refine ar (db (F.bm_bind _) ?_)
 refine ar (db (a:=()) rfl ?_)
 refine ar (db (a:=()) rfl ?_)
 refine bm_if_false rfl ?_
 refine ar (fo hT yg ?_)
 refine ar (ar ?_)
 show wpAny _ _ (load r>>=_) _ _ _
 refine ar (wpAny_load hr ?_)
 refine bu (bu ?_)
 refine bm_if_false rfl ?_
 refine ar (fo hT xe ?_)
 refine bm_if_true rfl ?_
 first
  |show wpAny _ _ (Builtin.Bytes.buffer? "bytes.__new__" (.ref r) true>>=_) _ _ _
  |(refine ar ?_;show wpAny _ _ (Builtin.Bytes.buffer? "bytes.__new__" (.ref r) true>>=_) _ _ _)
 refine ar ?_
 unfold Builtin.Bytes.buffer?
 refine ar (fo hT oP ?_)
 refine ar (fo hT oP ?_)
 refine bu ?_
 refine ar (wpAny_tryCatch (wpAny_pyIter_range hr hs ?_))
 have hit:IsRangeIter (s.heap.push {cls:= .type "range_iterator",data:= .fields #[rawInt a,rawInt (Builtin.Range.rangeSize a b 1),rawInt 1]}) s.heap.objs.size (a+((0:Nat):Int)*1) ((n:Int) - ((0:Nat):Int)) 1:=by
  show IsRangeIter _ _ _ _ _;rw [hn];simpa using Heap.get?_push_size _ rfl
 have F3:IsRange (s.heap.push {cls:= .type "range_iterator",data:= .fields #[rawInt a,rawInt (Builtin.Range.rangeSize a b 1),rawInt 1]}) r a b 1 t u v:=fL _ hr
 have wU:(s.heap.push {cls:= .type "range_iterator",data:= .fields #[rawInt a,rawInt (Builtin.Range.rangeSize a b 1),rawInt 1]}).objs.size=s.heap.objs.size+1:=Heap.size_push _ _
 have cx:∀b' o,s.heap.get? b' =some o->(s.heap.push {cls:= .type "range_iterator",data:= .fields #[rawInt a,rawInt (Builtin.Range.rangeSize a b 1),rawInt 1]}).get? b' =some o:=λb' o e=>fL _ e
 generalize s.heap.push {cls:= .type "range_iterator",data:= .fields #[rawInt a,rawInt (Builtin.Range.rangeSize a b 1),rawInt 1]}=gf at hit F3 wU cx⊢
 refine ar (wpAny_holding (pR (s:={s with heap:=gf}) F3 hn (by lia) λtk=> ?_))
 refine ar ?_
 unfold Builtin.Bytes.newBytearray
 refine wpAny_newObj_type ?_ (Nat.zero_le _)
 have Yr:(gf.push (eP #[])).get? gf.objs.size=some (eP (p8 a 0)):=Heap.get?_push_size _ rfl
 have main:=JN (prog:=prog) (w:=w) (A:=A.in1) (a:=a) (n:=n) (R:=wants (λobj s₁=>s₁.TypeIs obj "bytes"/\Q obj s₁) E) (I:=s.heap.objs.size) (S:=gf.objs.size) hh h0 h1 (by rw [wU];exact cW (Nat.lt_succ_self _))
  n 0 {s with heap:=gf.push (eP #[]),toks:=tk} rfl (Nat.zero_le _) (fL _ hit) Yr
  λh' t' k hk=>⟨dT _ _ _,h h' t' k λb o e=>hk b o (cW (Heap.lt_size e)) (by rw [wU];exact cW (Nat.lt_succ_of_lt (Heap.lt_size e))) (fL _ (cx b o e))⟩
 first
  |exact bu ⟨plainId_quiet F.bm_plain_loop _,main⟩
  |exact bu (bu ⟨plainId_quiet F.bm_plain_loop _,main⟩)
end
theorem qi (x:Int):∀l,(w9 x l).Perm (x::l)
 | []=> .refl _
 |y::r=>by
  rw [Fb]
  split
  ·exact .refl _
  ·exact ((qi x r).cons y).trans (.swap _ _ _)
theorem nY:∀l,(jK l).Perm l
 | []=> .refl _
 |x::r=>(qi x _).trans ((nY r).cons x)
set_option tactic.hygienic true in
theorem qO (x:Int):∀l:List Int,l.Pairwise (·<= ·)->(w9 x l).Pairwise (·<= ·)
 | [],_=>by simp [w9]
 |y::r,h=>by
  rw [Fb]
  rw [List.pairwise_cons] at h
  split
  ·rename_i q
   refine List.pairwise_cons.mpr ⟨λz hz=> ?_,List.pairwise_cons.mpr h⟩
   rcases cH hz with rfl|hz
   ·exact Int.le_of_lt ‹_›
   ·have:=h.1 z hz;lia
  ·rename_i q
   refine List.pairwise_cons.mpr ⟨λz hz=> ?_,qO x r h.2⟩
   rcases cH ((qi x r).mem_iff.mp hz) with rfl|hz
   ·lia
   ·exact h.1 z hz
theorem pd:∀l:List Int,(jK l).Pairwise (·<= ·)
 | []=> .nil
 |x::r=>qO x _ (pd r)
theorem zO {l m:List Int}(hp:m.Perm l)(hs:m.Pairwise (·<= ·)):m=jK l:=
 List.Perm.eq_of_pairwise (le:=(·<= ·)) (λa b u8 u8 h1 h2=>by lia) hs (pd l) (hp.trans (nY l).symm)
theorem wa:∀a b:By,ig a b=decide (a<b)
 | [], []=>by simp [show ig [] []=false from rfl]
 | [],_::_=>by simp [ig]
 |_::_, []=>by simp [ig]
 |x::a,y::b=>by
  have ih:=wa a b
  rw [QG]
  by_cases h1:x<y
  ·simp [h1,List.cons_lt_cons_iff]
  ·by_cases h2:x=y
   ·subst h2
    simp [List.cons_lt_cons_iff,ih]
   ·simp [h1,h2,List.cons_lt_cons_iff]
theorem BN {a b c:By}(h1:ig b a=false)(h2:ig c b=false):ig c a=false:=by
 rw [wa,decide_eq_false_iff_not] at*
 exact List.not_lt.mpr (List.le_trans (List.not_lt.mp h1) (List.not_lt.mp h2))
theorem Hl {a b:By}(h:ig a b=true):ig b a=false:=by
 rw [wa] at*
 simp only [decide_eq_true_eq,decide_eq_false_iff_not] at*
 exact List.lt_asymm h
theorem qj (x:By):∀l,(sN x l).Perm (x::l)
 | []=> .refl _
 |y::r=>by
  rw [DL]
  split
  ·exact .refl _
  ·exact ((qj x r).cons y).trans (.swap _ _ _)
theorem kU:∀l,(jv l).Perm l
 | []=> .refl _
 |x::r=>(qj x _).trans ((kU r).cons x)
set_option tactic.hygienic true in
theorem qI (x:By):∀l:List By,l.Pairwise (λa b=>ig b a=false)->(sN x l).Pairwise (λa b=>ig b a=false)
 | [],_=>by simp [sN]
 |y::r,h=>by
  rw [DL]
  rw [List.pairwise_cons] at h
  split
  ·rename_i q
   refine List.pairwise_cons.mpr ⟨λz hz=> ?_,List.pairwise_cons.mpr h⟩
   rcases cH hz with rfl|hz
   ·exact Hl q
   ·exact BN (Hl q) (h.1 z hz)
  ·rename_i q
   refine List.pairwise_cons.mpr ⟨λz hz=> ?_,qI x r h.2⟩
   rcases cH ((qj x r).mem_iff.mp hz) with rfl|hz
   ·simpa using q
   ·exact h.1 z hz
theorem pj:∀l:List By,(jv l).Pairwise (λa b=>ig b a=false)
 | []=> .nil
 |x::r=>qI x _ (pj r)
theorem Af {l m:List By}(hp:m.Perm l)(hs:m.Pairwise (λa b=>ig b a=false)):m=jv l:=
 List.Perm.eq_of_pairwise (le:=λa b=>ig b a=false) (λa b u8 u8 h1 h2=>by
  rw [wa,decide_eq_false_iff_not] at h1 h2
  exact List.le_antisymm (List.not_lt.mp h1) (List.not_lt.mp h2)) hs (pj l) (hp.trans (kU l).symm)
theorem tY {n:ao}{ah:dN}{us:List Value}{l:List Int}(h:IntsAre us l):aI n ah (l.map .int) us:=by
 induction h with
 |nil=>exact .nil
 |cons x t h ih=>exact .cons (.int x t) ih
set_option tactic.hygienic true in
theorem zK {vs:List SV}{l:List Int}(h:bT vs=some l):vs.length=l.length:=by
 induction vs generalizing l with
 |nil=>cases h;rfl
 |cons v vs ih=>
  cases v with
  |int i=>
   rw [Fh] at h
   split at h
   ·rename_i l' q;cases h;rw [dq,dq,ih q]
   ·exact mZ h
  |_=>cases h
theorem Nz {lo hi:Int}:fD lo hi=rangeKs lo (hi - lo).toNat:=rfl
noncomputable def pF (v:Value):By:=(lV v).map λc=>(c.toNat:Int)
theorem AX {n:ao}{ah:dN}:∀{vs:List Value},j3 vs->(∀v∈vs,(pF v).length<=big)->aI n ah ((vs.map pF).map .bytes) vs
 | [],_,_=> .nil
 |v::vs,h,hl=>by
  refine .cons ?_ (AX (λv hv=>h v (.tail _ hv)) λv hv=>hl v (.tail _ hv))
  refine zx (h v (.head _)) λb t de=> ?_;subst de
  exact .bytes b t (by rw [KBw.ints_list];rfl) (hl _ (.head _))
theorem B4 {n:ao}{ah:dN}{xs:List (By×SV)}{ys:List (List UInt8×Value)}(h:fZ Hr n ah xs ys):xs.map (·.1)=ys.map (λp=>p.1.map λc=>(c.toNat:Int))/\∀p∈ys,p.1.length<=big:=by
 induction h with
 |nil=>exact ⟨rfl,λu8 h=>jZ h⟩
 |cons h1 h2 h3 ih=>
  refine ⟨?_,λp hp=> ?_⟩
  ·rw [dY,dY,ih.1,<-h1.1,KBw.ints_list]
  ·rcases cH hp with rfl|hp
   ·have:=h1.2
    rw [<-h1.1,KBw.ints_list] at this
    simpa using this
   ·exact ih.2 p hp
theorem Cd {a:Int}{n:Nat}(h0:0<=a)(h1:a+n<=256):KBw.bInts (p8 a n)=rangeKs a n:=by
 rw [KBw.ints_list]
 unfold p8 rangeKs
 rw [List.map_map]
 refine List.map_congr_left λk hk=> ?_
 have:=List.mem_range.mp hk
 show (((a+(k:Int)).toNat.toUInt8.toNat:Nat):Int)=_
 rw [byte_back (by lia) (by lia)]
section
variable {c:Cx}{d:Nat}{m:Str->Option Value}{ac:ao}{ah:dN}{H:HP}{s:Shared}{A:Around}{E:Value->Shared->Prop}
theorem aV.grow (hn:aV c m ac ah H s){h' :Heap}{t:Nat}(hk:∀b o,s.heap.get? b=some o->h'.get? b=some o):aV c m ac ah H {s with heap:=h',toks:=t}:=by
 obtain ⟨⟨g,T,F,N⟩,nd,hr,ce,sh⟩:=hn
 exact ⟨⟨g,T,F.keeps hk,N.grown hk⟩,nd,hr,ce,sh⟩
theorem G7 (hn:aV c m ac ah H s){g:Heap}{D:Addr}{dm:Array UInt8}{b:By}{t:Nat}{h' :Heap}(T:KtsTurn c.fs c.g₀ g)(F:Fr g c.L h' m)(N:News g c.L h' ((D,eP dm)::ac))(lt:∀q∈ac,q.1<D)(hb:KBw.bInts dm=b)(hl:b.length<=big):
  aV c m ((D,eP dm)::ac) (ah++ [(D,D)]) (H++ [.cj b]) {s with heap:=h',toks:=t}/\br [] ac ah ((D,eP dm)::ac) (ah++ [(D,D)])/\av ((D,eP dm)::ac) (ah++ [(D,D)]) (.ref H.length) (.ref D):=
 have X:br [] ac ah ((D,eP dm)::ac) (ah++ [(D,D)]):=br.app _ _
 ⟨hn.new T F N lt (.cj (.head _) hb hl),X,rK hn⟩
theorem uP (hn:aV c m ac ah H s){a b:Int}{t u v:Tok}{tk:Nat}(h0:0<=a)(h1:a<=b)(h2:b<=big){k:Value->Shared->Prop}
  (q:∀az bM s' rx,aV c m az bM H s'->br [] ac ah az bM->av az bM (.range a b) rx->k rx s'):
  k (.ref s.heap.objs.size) {s with heap:=s.heap.push {cls:= .type "range",data:= .fields #[.int a t, .int b u, .int 1 v]},toks:=tk}:=by
 refine hn.gE λg T F N=> ?_
 exact q _ _ _ _ (hn.more T (F.push _) (N.push F (zv a b t u v)) hn.lt) (br.cons _) (.range (.head _) h0 h1 h2)
theorem Ni {l:List Int}{h:l.length<=big}:((l.map SV.int).length<=big):=by rw [bI];exact h
theorem qK {H:HP}{C:Bi->SV->dz SV->Prop}(bad:∀{b v},C b v .bad)(So:∀x,C .len (.bytes x) (.ok (.int x.length) H))(TZ:∀x,C .len (.tuple x) (.ok (.int x.length) H))(Sr:∀r x,H[r]? =some (.list x)->C .len (.ref r) (.ok (.int x.length) H))
  (bB:∀x,C .bytes (.bytes x) (.ok (.bytes x) H)) (bR:∀lo hi,0<=lo/\hi<=256->C .bytes (.range lo hi) (.ok (.bytes (fD lo hi)) H)) (bA:∀r x,H[r]? =some (.cj x)->C .bytes (.ref r) (.ok (.bytes x) H)) (bL:∀r x l,H[r]? =some (.list x)->bT x=some l->lG l=true->C .bytes (.ref r) (.ok (.bytes l) H))
  (rI:∀n,n<=4096/\0<=n->C .range (.int n) (.ok (.range 0 n) H)) (lL:∀r x,H[r]? =some (.list x)->C .list (.ref r) (.ok (.ref H.length) (H++ [.list x]))) (lR:∀lo hi,C .list (.range lo hi) (.ok (.ref H.length) (H++ [.list ((fD lo hi).map .int)])))
  (tL:∀r x,H[r]? =some (.list x)->C .tuple (.ref r) (.ok (.tuple x) H)) (tR:∀lo hi,C .tuple (.range lo hi) (.ok (.tuple ((fD lo hi).map .int)) H))
  (sL:∀r x l,H[r]? =some (.list x)->bT x=some l->l.length<64->C .sorted (.ref r) (.ok (.ref H.length) (H++ [.list ((jK l).map .int)]))) (sD:∀r es,H[r]? =some (.cg es)->es.length<64->C .sorted (.ref r) (.ok (.ref H.length) (H++ [.list ((jv (es.map (·.1))).map .bytes)])))
  (sZ:∀r,H[r]? =some .aM->C .sorted (.ref r) (.ok (.ref H.length) (H++ [.list []]))) (uL:∀r x l,H[r]? =some (.list x)->bT x=some l->C .sum (.ref r) (.ok (.int l.sum) H)) (b:Bi) (v:SV):C b v (yA b v H):=by
 cases b with
 |len=>cases v with
  |bytes x=>exact So x
  |tuple x=>exact TZ x
  |ref r=>
   show C _ _ (match H[r]? with|some (.list vs)=> .ok (.int vs.length) H|_=> .bad)
   cases hO:H[r]? with
   |none=>exact bad
   |some o=>cases o with
    |list x=>exact Sr r x hO
    |_=>exact bad
  |_=>exact bad
 |bytes=>cases v with
  |bytes x=>exact bB x
  |range lo hi=>
   show C _ _ (if 0<=lo/\hi<=256 then .ok (.bytes (fD lo hi)) H else .bad)
   split
   ·exact bR _ _ ‹_›
   ·exact bad
  |ref r=>
   show C _ _ (match H[r]? with
    |some (.cj b)=> .ok (.bytes b) H
    |some (.list vs)=>match bT vs with
     |some l=>if lG l then .ok (.bytes l) H else .bad
     |none=> .bad
    |_=> .bad)
   cases hO:H[r]? with
   |none=>exact bad
   |some o=>cases o with
    |cj x=>exact bA r x hO
    |list x=>
     show C _ _ (match bT x with|some l=>if lG l then .ok (.bytes l) H else .bad|none=> .bad)
     cases q:bT x with
     |none=>exact bad
     |some l=>
      show C _ _ (if lG l then .ok (.bytes l) H else .bad)
      split
      ·exact bL r x l hO q ‹_›
      ·exact bad
    |_=>exact bad
  |_=>exact bad
 |range=>cases v with
  |int n=>
   show C _ _ (if n<=4096/\0<=n then .ok (.range 0 n) H else .bad)
   split
   ·exact rI _ ‹_›
   ·exact bad
  |_=>exact bad
 |list=>cases v with
  |ref r=>
   show C _ _ (match H[r]? with|some (.list vs)=> .ok (.ref H.length) (H++ [.list vs])|_=> .bad)
   cases hO:H[r]? with
   |none=>exact bad
   |some o=>cases o with
    |list x=>exact lL r x hO
    |_=>exact bad
  |range lo hi=>exact lR _ _
  |_=>exact bad
 |tuple=>cases v with
  |ref r=>
   show C _ _ (match H[r]? with|some (.list vs)=> .ok (.tuple vs) H|_=> .bad)
   cases hO:H[r]? with
   |none=>exact bad
   |some o=>cases o with
    |list x=>exact tL r x hO
    |_=>exact bad
  |range lo hi=>exact tR _ _
  |_=>exact bad
 |sorted=>cases v with
  |ref r=>
   show C _ _ (match H[r]? with
    |some (.list vs)=>match bT vs with
     |some l=>if l.length<64 then .ok (.ref H.length) (H++ [.list ((jK l).map .int)]) else .bad
     |none=> .bad
    |some (.cg es)=>if es.length<64 then .ok (.ref H.length) (H++ [.list ((jv (es.map (·.1))).map .bytes)]) else .bad
    |some .aM=> .ok (.ref H.length) (H++ [.list []])
    |_=> .bad)
   cases hO:H[r]? with
   |none=>exact bad
   |some o=>cases o with
    |list x=>
     show C _ _ (match bT x with|some l=>if l.length<64 then .ok (.ref H.length) (H++ [.list ((jK l).map .int)]) else .bad|none=> .bad)
     cases q:bT x with
     |none=>exact bad
     |some l=>
      show C _ _ (if l.length<64 then .ok (.ref H.length) (H++ [.list ((jK l).map .int)]) else .bad)
      split
      ·exact sL r x l hO q ‹_›
      ·exact bad
    |cg es=>
     show C _ _ (if es.length<64 then .ok (.ref H.length) (H++ [.list ((jv (es.map (·.1))).map .bytes)]) else .bad)
     split
     ·exact sD r es hO ‹_›
     ·exact bad
    |aM=>exact sZ r hO
    |_=>exact bad
  |_=>exact bad
 |sum=>cases v with
  |ref r=>
   show C _ _ (match H[r]? with
    |some (.list vs)=>match bT vs with
     |some l=> .ok (.int l.sum) H
     |none=> .bad
    |_=> .bad)
   cases hO:H[r]? with
   |none=>exact bad
   |some o=>cases o with
    |list x=>
     show C _ _ (match bT x with|some l=> .ok (.int l.sum) H|none=> .bad)
     cases q:bT x with
     |none=>exact bad
     |some l=>exact uL r x l hO q
    |_=>exact bad
  |_=>exact bad
 |_=>exact bad
noncomputable abbrev Kk (c:Cx)(m:Str->Option Value)(ac:ao)(ah:dN)(x:SV)(H' :HP)(Q:Value->Shared->Prop):Prop:=∀az bM s' rx,aV c m az bM H' s'->br [] ac ah az bM->av az bM x rx->Q rx s'
section
variable {Q:Value->Shared->Prop}{a:Addr}{aC:List Value}{n:Nat}{vs:List SV}{l:List Int}{lo hi:Int}{t u v:Tok}
theorem NN {dm:Array UInt8}(hn:aV c m ac ah H s)(h2:(KBw.bInts dm).length<=big)(k:Kk c m ac ah (.int (KBw.bInts dm).length) H Q):wpAny (model c.prog c.w) A (call (fm .len) [.bytes dm t]) Q E s:=by
 have wb:big=4096:=rfl
 exact KBw.len_K rfl (by exact lA ‹_› rfl) (k _ _ _ _ (hn.toks _) br.refl (.int _ _))
theorem L0 (hn:aV c m ac ah H s)(hm:(a,jG aC)∈ac)(nH:aI ac ah vs aC)(hl:vs.length<=big)(k:Kk c m ac ah (.int vs.length) H Q):wpAny (model c.prog c.w) A (call (fm .len) [.ref a]) Q E s:=by
 refine hn.gE λg T F N=> ?_
 have td:vs.length<=4096:=hl
 have kk:=k _ _ _ _ (hn.toks (s.toks+1+1)) br.refl (.int (vs.length:Int) (s.toks+1))
 rw [nH.length] at kk td
 exact PyProof.Rows.len_tuple (tC N hm) (by rw [List.size_toArray];lia) (by rw [List.size_toArray];exact kk)
theorem Mp (hn:aV c m ac ah H s)(hm:(a,listOf aC.toArray n)∈ac)(nH:aI ac ah vs aC)(hl:vs.length<=big)(k:Kk c m ac ah (.int vs.length) H Q):wpAny (model c.prog c.w) A (call (fm .len) [.ref a]) Q E s:=by
 refine hn.gE λg T F N=> ?_
 have td:vs.length<=4096:=hl
 have kk:=k _ _ _ _ (hn.toks (s.toks+1+1)) br.refl (.int (vs.length:Int) (s.toks+1))
 rw [nH.length] at kk td
 exact Calls.call_len_list (ct N hm) (by rw [List.size_toArray];lia) (by rw [List.size_toArray];exact kk)
theorem Hz (hh:A.handled=none)(hn:aV c m ac ah H s)(hm:(a,zv lo hi t u v)∈ac)(h0:0<=lo)(h1:lo<=hi)(hc:hi<=256)(k:Kk c m ac ah (.bytes (fD lo hi)) H Q):wpAny (model c.prog c.w) A (call (fm .bytes) [.ref a]) Q E s:=by
 refine hn.gE λg T F N=> ?_
 refine sS hh (N _ hm).1 (jN h0 h1 (by exact iA ‹_› rfl)) (rangeSize_nat lo hi) h0 (by lia) λh' t' tk hk=> ?_
 exact k _ _ _ _ (hn.grow hk) br.refl (.bytes _ _ (Cd h0 (by lia)) (by unfold fD;rw [bI,List.length_range];show _<=4096;lia))
theorem FV {dm:Array UInt8}(hn:aV c m ac ah H s)(hm:(a,eP dm)∈ac)(hl:(KBw.bInts dm).length<=big)(k:Kk c m ac ah (.bytes (KBw.bInts dm)) H Q):wpAny (model c.prog c.w) A (call (fm .bytes) [.ref a]) Q E s:=by
 refine hn.gE λg T F N=> ?_
 exact uo (N _ hm).1 (by rw [<-KBw.ints_length,eT];exact cy hl (by unfold big;decide)) λt tk=>k _ _ _ _ (hn.toks tk) br.refl (.bytes _ _ rfl hl)
theorem EZ (hh:A.handled=none)(hn:aV c m ac ah H s)(hm:(a,listOf aC.toArray n)∈ac)(nH:aI ac ah vs aC)(hl:vs.length<=big)(hi:bT vs=some l)(ho:lG l=true)(k:Kk c m ac ah (.bytes l) H Q):wpAny (model c.prog c.w) A (call (fm .bytes) [.ref a]) Q E s:=by
 refine hn.gE λg T F N=> ?_
 have yM:KBa.In l:=λz hz=>by
  have:=List.all_eq_true.mp ho z hz
  simpa using this
 have td:l.length<=4096:=zK hi▸hl
 exact KBa.make_K F N hh (ct N hm) (nH.ints hi) yM (by exact lA ‹_› rfl) λh' t' k' F' N' u8=>k _ _ _ _ (⟨⟨g,T,F',N'⟩,hn.nd,hn.hr,hn.cells,hn.sh⟩) br.refl (.bytes _ _ (KBa.ints_make yM) td)
theorem Jl (hh:A.handled=none)(hn:aV c m ac ah H s)(hm:(a,zv lo hi t u v)∈ac)(h0:0<=lo)(h1:lo<=hi)(h2:hi<=big)(k:Kk c m ac ah (.ref H.length) (H++ [.list ((fD lo hi).map .int)]) Q):wpAny (model c.prog c.w) A (call (fm .list) [.ref a]) Q E s:=by
 refine hn.gE λg T F N=> ?_
 have ka:hi<=4096:=h2
 refine kll_range (n:=(hi - lo).toNat) hh F N (N _ hm).1 (jN h0 h1 (by assumption)) (rangeSize_nat lo hi) (by lia) λD us cc h' tk F' N' lt Nw=> ?_
 obtain ⟨a1,a2,a3⟩:=jm (t:=tk) hn T F' N' lt (tY Nw) (by rw [bI,rangeKs_length];show _<=4096;lia)
 exact k _ _ _ _ a1 a2 a3
theorem I3 (hn:aV c m ac ah H s)(hm:(a,listOf aC.toArray n)∈ac)(nH:aI ac ah vs aC)(hl:vs.length<=big)(k:Kk c m ac ah (.ref H.length) (H++ [.list vs]) Q):wpAny (model c.prog c.w) A (call (fm .list) [.ref a]) Q E s:=by
 refine hn.gE λg T F N=> ?_
 refine list_copyK F N (ct N hm) (λD cc h' F' N' lt=> ?_) (by rw [List.size_toArray,eT,<-nH.length];exact cy hl (by unfold big;decide))
 refine rm (jm (t:=s.toks) hn T F' N' lt nH hl) λa1 a2 a3=> ?_
 exact k _ _ _ _ a1 a2 a3
theorem Nf (hh:A.handled=none)(hn:aV c m ac ah H s)(hm:(a,zv lo hi t u v)∈ac)(h0:0<=lo)(h1:lo<=hi)(h2:hi<=big)(k:Kk c m ac ah (.tuple ((fD lo hi).map .int)) H Q):wpAny (model c.prog c.w) A (call (fm .tuple) [.ref a]) Q E s:=by
 refine hn.gE λg T F N=> ?_
 have ka:hi<=4096:=h2
 refine yV (n:=(hi - lo).toNat) hh (N _ hm).1 (jN h0 h1 (by assumption)) (rangeSize_nat lo hi) (by lia) λh' tk d6 hk kL=> ?_
 have hI:IntsAre d6.toList (rangeKs lo (hi - lo).toNat):=kll_ints _ _ _ (by rw [Array.length_toList];exact kL.1) λj v hj=>kL.2 j v (by rw [<-hj,Array.getElem?_toList])
 have F1:=F.keeps hk
 have N1:=N.grown hk
 have N2:=N1.push F1 (jG d6.toList)
 have e1:jG d6.toList={cls:= .type "tuple",data:= .seq d6}:=by show ({cls:= .type "tuple",data:= .seq d6.toList.toArray}:Obj)=_;rw [Array.toArray_toList]
 obtain ⟨a1,a2,a3⟩:=kh (t:=tk) hn T (F1.push (jG d6.toList)) N2 (λp hp=>Heap.lt_size (N1 p hp).1) (tY hI) (by rw [bI,rangeKs_length];show _<=4096;lia)
 rw [<-e1]
 exact k _ _ _ _ a1 a2 a3
theorem MZ (hn:aV c m ac ah H s)(hm:(a,listOf aC.toArray n)∈ac)(nH:aI ac ah vs aC)(hl:vs.length<=big)(k:Kk c m ac ah (.tuple vs) H Q):wpAny (model c.prog c.w) A (call (fm .tuple) [.ref a]) Q E s:=by
 refine hn.gE λg T F N=> ?_
 have td:vs.length<=4096:=hl
 rw [nH.length] at td
 refine kde_tupleOf F N (ct N hm) (by rw [List.size_toArray];exact lA ‹_› rfl) rfl λD h' F' N' lt=> ?_
 refine rm (kh (t:=s.toks) hn T F' N' lt nH hl) λa1 a2 a3=> ?_
 exact k _ _ _ _ a1 a2 a3
theorem Jo (hn:aV c m ac ah H s)(hm:(a,listOf aC.toArray n)∈ac)(nH:aI ac ah vs aC)(hi:bT vs=some l)(Jp:l.length<64)(k:Kk c m ac ah (.ref H.length) (H++ [.list ((jK l).map .int)]) Q):wpAny (model c.prog c.w) A (call (fm .sorted) [.ref a]) Q E s:=by
 refine hn.gE λg T F N=> ?_
 refine kso_sorted F N (ct N hm) (nH.ints hi) Jp λD Yi Zv cc h' F' N' lt hI Uv Kn M7 u8=> ?_
 have:=zO Kn M7
 subst this
 obtain ⟨a1,a2,a3⟩:=jm (t:=s.toks) hn T F' N' lt (tY hI) (by rw [bI,(nY l).length_eq];exact cy (Nat.le_of_lt Jp) (by unfold big;decide))
 exact k _ _ _ _ a1 a2 a3
theorem Ij {es:List (By×SV)}{ys:List (List UInt8×Value)}{vs:List Value}(QQ:es.map (·.1)=ys.map (λp=>p.1.map λc=>(c.toNat:Int)))(wU:vs.length=ys.length)(hit:∀(j:Nat) (h:j<vs.length),∃kx xx,ys[j]? =some (kx,xx)/\isBytes kx vs[j]=true):vs.map pF=es.map (·.1):=by
 rw [QQ]
 refine List.ext_getElem? λj=> ?_
 rw [hV,hV]
 rcases Nat.lt_or_ge j ys.length with hj|hj
 ·refine uz (hit j (by lia)) λkx xx e1 e2=> ?_
  rw [e1,eW (by lia)]
  obtain ⟨t,ht⟩:=isBytes_shape e2
  show some (pF vs[j])=some (kx.map _)
  unfold pF lV
  rw [ht]
 ·rw [List.getElem?_eq_none (by lia),List.getElem?_eq_none hj];rfl
theorem BI {o:Obj}{es:List (By×SV)}{ys:List (List UInt8×Value)}(hh:A.handled=none)(hn:aV c m ac ah H s)(hm:(a,o)∈ac)(lo:(a==sysModules)=false)(hd:o.IsDictOf (bytesKind c.prog c.w) ys)(AP:fZ Hr ac ah es ys)(Jp:es.length<64)
  (k:Kk c m ac ah (.ref H.length) (H++ [.list ((jv (es.map (·.1))).map .bytes)]) Q):wpAny (model c.prog c.w) A (call (fm .sorted) [.ref a]) Q E s:=by
 refine hn.gE λg T F N=> ?_
 refine Yo (kJ hn hm hd) λo' DC ep sK hx WW rM Nm Sp=> ?_
 obtain ⟨QQ,Wf⟩:=B4 AP
 refine xy (kvs:=ys) (ep:=ep) hh lo ⟨o',DC,sK,hx,WW,rM,Nm,Sp⟩ (AP.length▸Jp) (λk v hv=>by obtain ⟨t,rfl⟩:=isBytes_shape hv;exact ⟨_,_,rfl⟩) λh₁ h' tk vs out ee E5 Jh SM Hp og NL O1=> ?_
 have wU:vs.length=ys.length:=by simpa using Hp.1
 have nH:=Ij QQ wU λj hj=>Hp.2 j vs[j] (by simp)
 have Tm:∀l:List Value,l.map pF=(l.map lV).map (λz=>z.map λc=>(c.toNat:Int)):=λl=>by rw [List.map_map];rfl
 have A2:out.toList.map pF=jv (es.map (·.1)):=by
  refine Af ?_ ?_
  ·rw [<-nH,Tm,Tm];exact NL.map _
  ·rw [Tm,List.pairwise_map]
   exact O1.imp λ{a b} Kr=>by rw [wJ];exact Kr
 have hle:∀v∈out.toList,(pF v).length<=big:=λv hv=>by
  have h1:pF v∈es.map (·.1):=(kU _).mem_iff.mp (A2▸hZ hv)
  rw [QQ] at h1
  refine aZ (gD h1) λp Xm Yq=> ?_
  rw [<-Yq,bI]
  exact Wf p Xm
 have N1:=N.grown E5
 have N2:=N1.kept_cons (F.keeps E5) Jh (bS _) SM
 have NS:=AX (n:=ac) (ah:=ah) og hle
 rw [A2] at NS
 rw [show seqObj "list" out ee=listOf out.toList.toArray ee by rw [Array.toArray_toList]] at N2
 obtain ⟨a1,a2,a3⟩:=jm (t:=tk) hn T ((F.keeps E5).keeps Jh) N2 (λq hq=>Heap.lt_size (N1 q hq).1) NS (by
  rw [bI,(kU _).length_eq,bI];exact cy (Nat.le_of_lt Jp) (by unfold big;decide))
 exact k _ _ _ _ a1 a2 a3
theorem OP (hh:A.handled=none)(hn:aV c m ac ah H s)(hm:(a,listOf aC.toArray n)∈ac)(nH:aI ac ah vs aC)(hi:bT vs=some l)(k:Kk c m ac ah (.int l.sum) H Q):wpAny (model c.prog c.w) A (call (fm .sum) [.ref a]) Q E s:=by
 refine hn.gE λg T F N=> ?_
 exact LSm.sum_ints F N hh (ct N hm) (nH.ints hi) λh' tk t' F' N' =>k _ _ _ _ (⟨⟨g,T,F',N'⟩,hn.nd,hn.hr,hn.cells,hn.sh⟩) br.refl (.int _ _)
end
theorem Eg (ok:c.Ok d)(hh:A.handled=none)(hg:A.guards=some [])(hn:aV c m ac ah H s){b:Bi}{v x:SV}{rv:Value}{H' :HP}{Q:Value->Shared->Prop}(hv:av ac ah v rv)(e:yA b v H= .ok x H')
  (k:Kk c m ac ah x H' Q):aG (model c.prog c.w) A (call (fm b) [rv]) Q E s:=by
 have hr:=hn.hr.obj
 have R:∀{r} {o:SO} {rv:Value},H[r]? =some o->av ac ah (.ref r) rv->∃p,rv= .ref p.1/\OV c.prog c.w c.S ac ah p o:=λhO hv=>by
  refine aZ (cK rfl hv) λp gP hp=> ?_;subst gP
  exact ⟨p,rfl,ov (hr _ _ p hO hp)⟩
 refine qK (C:=λb v z=>z= .ok x H'->∀rv,av ac ah v rv->aG (model c.prog c.w) A (call (fm b) [rv]) Q E s) (λe=>HL e) (λx e rv hv=> ?_) (λx e rv hv=> ?_) (λr x hO e rv hv=> ?_) (λx e rv hv=> ?_) (λlo hi hc e rv hv=> ?_) (λr x hO e rv hv=> ?_)
  (λr x l hO hl ho e rv hv=> ?_) (λn hc e rv hv=> ?_) (λr x hO e rv hv=> ?_) (λlo hi e rv hv=> ?_) (λr x hO e rv hv=> ?_) (λlo hi e rv hv=> ?_) (λr x l hO hl Jp e rv hv=> ?_) (λr x hO Jp e rv hv=> ?_) (λr hO e rv hv=> ?_) (λr x l hO hl e rv hv=> ?_) b v e rv hv
 ·refine jX (bh hv) λu8 u8 de wN h2=> ?_;subst de;subst wN
  exact oG e λa b=>ap (NN hn h2 (a▸b▸k))
 ·refine xM (cT hv) λu8 u8 de h1 h2 h3=> ?_;subst de
  exact oG e λa b=>ap (L0 hn h1 h2 h3 (a▸b▸k))
 ·obtain ⟨_,rfl,_,_,h1,h2,h3⟩:=R hO hv
  exact oG e λa b=>ap (Mp hn h1 h2 h3 (a▸b▸k))
 ·refine jX (bh hv) λdm t de h1 h2=> ?_;subst de
  exact oG e λa b=>ap (tN ((a▸b▸k:Kk c m ac ah (.bytes x) H Q) _ _ _ _ (hn.toks s.toks) br.refl (.bytes dm t h1.symm h2)))
 ·refine Bg (oj hv) λu8 u8 u8 u8 Ph h1 h2 h3 h4=> ?_;subst Ph
  exact oG e λa b=>ap (Hz hh hn h1 h2 h3 hc.2 (a▸b▸k))
 ·obtain ⟨_,rfl,_,h1,rfl,h3⟩:=R hO hv
  exact oG e λa b=>ap (FV hn h1 h3 (a▸b▸k))
 ·obtain ⟨_,rfl,_,_,h1,h2,h3⟩:=R hO hv
  exact oG e λa b=>ap (EZ hh hn h1 h2 h3 hl ho (a▸b▸k))
 ·obtain ⟨_,rfl⟩:=aQ hv
  exact oG e λa b=>ap (call_range_1 (uP hn (by decide) hc.2 (by show _<=4096;lia) (a▸b▸k)))
 ·obtain ⟨_,rfl,_,_,h1,h2,h3⟩:=R hO hv
  exact oG e λa b=>ap (I3 hn h1 h2 h3 (a▸b▸k))
 ·refine Bg (oj hv) λu8 u8 u8 u8 Ph h1 h2 h3 h4=> ?_;subst Ph
  exact oG e λa b=>ap (Jl hh hn h1 h2 h3 h4 (a▸b▸k))
 ·obtain ⟨_,rfl,_,_,h1,h2,h3⟩:=R hO hv
  exact oG e λa b=>ap (MZ hn h1 h2 h3 (a▸b▸k))
 ·refine Bg (oj hv) λu8 u8 u8 u8 Ph h1 h2 h3 h4=> ?_;subst Ph
  exact oG e λa b=>ap (Nf hh hn h1 h2 h3 h4 (a▸b▸k))
 ·obtain ⟨_,rfl,_,_,h1,h2,h3⟩:=R hO hv
  exact oG e λa b=>ap (Jo hn h1 h2 hl Jp (a▸b▸k))
 ·obtain ⟨_,rfl,_,_,h1,lo,hd,AP,_⟩:=R hO hv
  exact oG e λa b=>ap (BI hh hn h1 lo hd AP Jp (a▸b▸k))
 ·obtain ⟨_,rfl,_,h1,lo,hd⟩:=R hO hv
  exact oG e λa b=>ap (BI (es:= []) hh hn h1 lo (hd _ (bytesKind c.prog c.w)) .nil (by decide) (a▸b▸k))
 ·obtain ⟨_,rfl,_,_,h1,h2,h3⟩:=R hO hv
  exact oG e λa b=>ap (OP hh hn h1 h2 hl (a▸b▸k))
theorem qW {H:HP}{C:Bi->SV->SV->dz SV->Prop}(bad:∀{b v w},C b v w .bad)(ra:∀i j,0<=i/\i<=j/\j<=4096->C .range (.int i) (.int j) (.ok (.range i j) H))(mi:∀i j,C .min (.int i) (.int j) (.ok (.int (if j<i then j else i)) H))(b:Bi)(v w:SV):C b v w (yX b v w H):=by
 cases v with
 |int i=>cases w with
  |int j=>cases b with
   |range=>
    show C _ _ _ (if 0<=i/\i<=j/\j<=4096 then .ok (.range i j) H else .bad)
    split
    ·exact ra i j ‹_›
    ·exact bad
   |min=>exact mi i j
   |_=>exact bad
  |_=>exact bad
 |_=>exact bad
theorem HD (ok:c.Ok d)(hh:A.handled=none)(hg:A.guards=some [])(hn:aV c m ac ah H s){b:Bi}{v w x:SV}{rv rw:Value}{H' :HP}{Q:Value->Shared->Prop}(hv:av ac ah v rv)(hw:av ac ah w rw)(e:yX b v w H= .ok x H')
  (k:Kk c m ac ah x H' Q):aG (model c.prog c.w) A (call (fm b) [rv,rw]) Q E s:=by
 refine qW (C:=λb v w z=>z= .ok x H'->av ac ah v rv->av ac ah w rw->aG (model c.prog c.w) A (call (fm b) [rv,rw]) Q E s) (λe=>HL e) (λi j hc e hv hw=> ?_) (λi j e hv hw=> ?_) b v w e hv hw
 ·obtain ⟨_,rfl⟩:=aQ hv
  obtain ⟨_,rfl⟩:=aQ hw
  exact oG e λa b=>ap (call_range_2 (uP hn hc.1 hc.2.1 hc.2.2 (a▸b▸k)))
 ·obtain ⟨_,rfl⟩:=aQ hv
  obtain ⟨_,rfl⟩:=aQ hw
  refine hn.gE λg T F N=> ?_
  exact oG e λa b=>ap (min_two_N hh F N λh' tk F' N' =>(a▸b▸k:Kk c m ac ah (.int (if j<i then j else i)) H Q) _ _ _ _ (⟨⟨g,T,F',N'⟩,hn.nd,hn.hr,hn.cells,hn.sh⟩) br.refl (.int _ _))
theorem GA (ok:c.Ok d)(hg:A.guards=some [])(hn:aV c m ac ah H s){Q:Value->Shared->Prop}
  (k:∀az bM s' rx,aV c m az bM (H++ [.cj []]) s'->br [] ac ah az bM->av az bM (.ref H.length) rx->Q rx s'):aG (model c.prog c.w) A (call (.type "bytearray") []) Q E s:=by
 refine hn.gE λg T F N=> ?_
 refine JR hg λh' hs ho=> ?_
 have F' :Fr g c.L h' m:=by
  have F1:=F.push (eP #[])
  exact F1.keeps λb o e=>by
   by_cases q:b=s.heap.objs.size
   ·subst q
    rw [Heap.get?_push_size _ rfl] at e
    cases e;exact ho
   ·exact (hs.2 b q).trans e
 have cx:∀b o,s.heap.get? b=some o->h'.get? b=some o:=λb o e=>(hs.2 b (cW (Heap.lt_size e))).trans (fL _ e)
 refine rm (G7 (t:=s.toks) hn T F' (news_pushed F N cx ho rfl) hn.lt (b:= []) rfl (Nat.zero_le _)) λa1 a2 a3=> ?_
 exact k _ _ _ _ a1 a2 a3
set_option tactic.hygienic true in
theorem qU {H:HP}{C:Bi->List SV->dz SV->Prop}(bad:∀{b as},C b as .bad)(c0:C .bytearray [] (.ok (.ref H.length) (H++ [.cj []])))(c1:∀b v,C b [v] (yA b v H))(c2:∀b v w,C b [v,w] (yX b v w H))(b:Bi)(as:List SV):C b as (bG b as H):=by
 cases as with
 |nil=>
  show C _ _ (if b= .bytearray then .ok (.ref H.length) (H++ [.cj []]) else .bad)
  split
  ·rename_i h;subst h;exact c0
  ·exact bad
 |cons v as=>cases as with
  |nil=>exact c1 b v
  |cons w as=>cases as with
   |nil=>exact c2 b v w
   |cons _ _=>exact bad
theorem qA {v:SV}{rs:List Value}(h:aI ac ah [v] rs):∃r,rs= [r]/\av ac ah v r:=by
 cases h with|cons h t=>cases t;exact ⟨_,rfl,h⟩
theorem Me {v w:SV}{rs:List Value}(h:aI ac ah [v,w] rs):∃r q,rs= [r,q]/\av ac ah v r/\av ac ah w q:=by
 cases h with|cons h t=>
 refine aZ (qA t) λq gP h2=> ?_;subst gP
 exact ⟨_,_,rfl,h,h2⟩
theorem EY (ok:c.Ok d)(hh:A.handled=none)(hg:A.guards=some [])(hn:aV c m ac ah H s){b:Bi}{as:List SV}{rs:List Value}{x:SV}{H' :HP}{Q:Value->Shared->Prop}(has:aI ac ah as rs)(e:bG b as H= .ok x H')
  (k:Kk c m ac ah x H' Q):aG (model c.prog c.w) A (call (fm b) rs) Q E s:=by
 refine qU (C:=λb as z=>z= .ok x H'->aI ac ah as rs->aG (model c.prog c.w) A (call (fm b) rs) Q E s) (λe=>HL e) (λe h=> ?_) (λb v e h=> ?_) (λb v w e h=> ?_) b as e has
 ·cases h
  exact oG e λa b=>GA ok hg hn (a▸b▸k)
 ·refine aZ (qA h) λu8 gP h1=> ?_;subst gP
  exact Eg ok hh hg hn h1 e k
 ·refine jX (Me h) λu8 u8 de h1 h2=> ?_;subst de
  exact HD ok hh hg hn h1 h2 e k
end
section
variable {α:Type}{M:Model}{A:Around}{E:Value->Shared->Prop}{s:Shared}{env:Env}
theorem FH {m:Sem α}{Q:α->Shared->Prop}(h:aG M A m Q E s):aG M A (m.keep vs) Q E s:=λΓ p i g=>by
 rw [Sem.wp_keep];exact h Γ p i g
theorem Je (h:aG M A (eval l env) (λa s₁=>aG M A (eval r env) (λb s₂=>aG M A (binaryOp op a b) Q E s₂) E s₁) E s):aG M A (eval (.BinOp l op r pos) env) Q E s:=by
 rw [arm_eval_BinOp]
 exact ag (aA h λa s₁ h₁=>ag (aD (aA h₁ λb s₂ h₂=>ag (aB (iz h₂)))))
theorem MP (h:aG M A (eval x env) (λa s₁=>aG M A (unaryOp op a) Q E s₁) E s):aG M A (eval (.UnaryOp op x pos) env) Q E s:=by
 rw [arm_eval_UnaryOp]
 exact ag (aA h λa s₁ h₁=>ag (aB (aD h₁)))
theorem TN (h:aG M A (eval l env) (λa s₁=>aG M A (eval r env) (λb s₂=>aG M A (compareOp op a b) Q E s₂) E s₁) E s)
  (hm:behindInMarks op r=false):aG M A (eval (.Compare l [op] [r] pos) env) Q E s:=by
 rw [eval_Compare1,markedBehindIn_of_false hm]
 exact ag (aA h λa s₁ h₁=>ag (aD (aA h₁ λb s₂ h₂=>ag (aB (iz h₂)))))
theorem Fy {l r whole:_}(h:aG M A (eval l env) (λa s₁=>aG M A (eval r env) (λb s₂=>aG M A (compareOp op a b) (λc s₃=>aG M A (truthy c) Q E s₃) E s₂) E s₁) E s)
  (hm:behindInMarks op r=false):aG M A (isTrue (.Compare l [op] [r] pos) env whole) Q E s:=by
 rw [isTrue_Compare1,markedBehindIn_of_false hm]
 exact ag (aA h λa s₁ h₁=>ag (aD (aA h₁ λb s₂ h₂=>ag (aB (ag (iz (aA h₂ λc s₃ h₃=>aD h₃)))))))
theorem Lj (h:aG M A (eval v env) (λo s₁=>aG M A (eval i env) (λk s₂=>aG M A (subscriptTail v i o k) Q E s₂) E s₁) E s):aG M A (eval (.Subscript v i pos) env) Q E s:=by
 rw [arm_eval_Subscript]
 exact ag (aA h λo s₁ h₁=>ag (aD (aA h₁ λk s₂ h₂=>ag (aB h₂))))
theorem Kz (h:match e with|some e=>aG M A (eval e env) Q E s|none=>Q .none s):aG M A (valueOrNone (evalOpt e env)) Q E s:=by
 cases e with
 |none=>exact aq h
 |some e=>exact h
theorem FM {lo hi:Option Expr}(h:aG M A (valueOrNone (evalOpt lo env)) (λl s₁=>aG M A (valueOrNone (evalOpt hi env)) (λu s₂=>
   Q (.ref s₂.heap.objs.size) {s₂ with heap:=s₂.heap.push {cls:= .type "slice",data:= .fields #[l,u, .none]}}) E s₁) E s):aG M A (eval (.Slice lo hi none p) env) Q E s:=by
 rw [arm_eval_Slice]
 exact ag (aA h λl s₁ h₁=>ag (aD (aA h₁ λu s₂ h₂=>ag (aD (aq (ap (wpAny_newObj_type h₂)))))))
theorem SK (h:aG M A (isTrue t env (eval t env)) (λc s₁=>if c=true then aG M A (eval a env) Q E s₁ else aG M A (eval b env) Q E s₁) E s):aG M A (eval (.IfExp t a b pos) env) Q E s:=by
 rw [arm_eval_IfExp]
 exact ag (aA h λc s₁ h₁=>by cases c<;>exact h₁)
theorem Fd {k:_}(h:aG M A (spliced (backTo pos (starEach es env))) (λvs s₁=>aG M A (newTuple vs) Q E s₁) E s):aG M A (eval (.Tuple es k pos) env) Q E s:=by
 rw [arm_eval_Tuple]
 exact ag (aB (ag h))
theorem PG (h:aG M A (spliced (backTo pos (starEach es env))) (λvs s₁=>aG M A (newList vs) Q E s₁) E s):aG M A (eval (.List es pos) env) Q E s:=by
 rw [arm_eval_List]
 exact ag (aB (ag h))
theorem Bb (h:Q [] s):aG M A (spliced (backTo pos (starEach [] env))) Q E s:=aq h
theorem yI (hs:stop e=false)
  (h:aG M A (eval e env) (λv s₁=>aG M A (spliced (backTo pos (starEach aH env))) (λvs s₂=>Q (v::vs) s₂) E s₁) E s):aG M A (spliced (backTo pos (starEach (e::aH) env))) Q E s:=by
 rw [(pl e).star hs]
 show aG M A (do let v<-eval e env;let here<-(pure [v]:Sem (List Value));return here++(<-holding here (spliced (backTo pos (starEach aH env))))) Q E s
 exact ag (aA h λv s₁ h₁=>ag (aq (ag (aD (aA h₁ λvs s₂ h₂=>aq h₂)))))
theorem vh (h:aG M A (eval e env) Q E s):aG M A (boolOp pos op (evalEach [e] env)) Q E s:=h
theorem u7
  (h:aG M A (eval e env) (λv s₁=>aG M A (truthy v) (λt s₂=>match op,t with
   | .And,false| .Or,true=>Q v s₂
   |_,_=>aG M A (boolOp pos op (evalEach (e' ::aH) env)) Q E s₂) E s₁) E s):aG M A (boolOp pos op (evalEach (e::e' ::aH) env)) Q E s:=by
 show aG M A (do let v<-eval e env;standAt pos;let t<-holding [v] (truthy v);match op,t with
  | .And,false| .Or,true=>pure v
  |_,_=>boolOp pos op (evalEach (e' ::aH) env)) Q E s
 refine ag (aA h λv s₁ h₁=>ag (aB (ag (aD (aA h₁ λt s₂ h₂=> ?_)))))
 cases op<;>cases t<;>first|exact aq h₂|exact h₂
theorem BJ (h:Q (op== .And) s):aG M A (allTrue op [] env) Q E s:=aq h
theorem wX (h:aG M A (isTrue e env (eval e env)) (λt s₁=>match op,t with
   | .And,false=>Q false s₁
   | .Or,true=>Q true s₁
   |_,_=>aG M A (allTrue op aH env) Q E s₁) E s):aG M A (allTrue op (e::aH) env) Q E s:=by
 rw [arm_allTrue_cons]
 refine ag (aA h λt s₁ h₁=> ?_)
 cases op<;>cases t<;>first|exact aq h₁|exact h₁
theorem F6 (h:aG M A (isTrue x env (eval x env)) (λb=>Q (!b)) E s):aG M A (isTrue (.UnaryOp .Not x pos) env whole) Q E s:=by
 rw [arm_isTrue_UnaryOp]
 exact ag (aA h λb s₁ h₁=>aq h₁)
theorem u9 (h:aG M A (allTrue op es env) Q E s):aG M A (isTrue (.BoolOp op es pos) env whole) Q E s:=by
 rw [arm_isTrue_BoolOp];exact h
theorem HE (hp:mL e=true)(h:aG M A (eval e env) (λv s₁=>aG M A (truthy v) Q E s₁) E s):aG M A (isTrue e env (eval e env)) Q E s:=by
 rw [(pl e).Yk hp]
 exact ag (aA h λv s₁ h₁=>ag (aB (aD h₁)))
theorem O4 (hs:jM v=true)
  (h:aG (model prog w) A (eval v env) (λo s₁=>aG (model prog w) A (getAttr o attr true) (λr s₂=>Q r s₂) E s₁) E s):aG (model prog w) A (eval (.Attribute v attr pos) env) Q E s:=by
 rw [arm_eval_Attribute,(pl v).base hs]
 exact ag (aA h λo s₁ h₁=>ag (aB (ag (aD (aA h₁ λr s₂ h₂=>ag (ap (wpAny_letTemporaryGo (show aG _ _ _ _ _ _ from aq h₂))))))))
theorem gy:∀(es:List Expr) (pos:Pos),es.all (λe=> !stop e)=true->(backTo pos (starEach es env)).any (·.1)=false/\(backTo pos (starEach es env)).all (λx=> !x.1)=true
 | [],_,_=>⟨rfl,rfl⟩
 |e::r,pos,h=>by
  simp only [List.all_cons,Bool.and_eq_true,Bool.not_eq_true'] at h
  obtain ⟨a,b⟩:=gy r pos h.2
  rw [(pl e).star h.1]
  exact ⟨by show (false||_)=false;rw [Bool.false_or];exact a,by show (true&&_)=true;rw [Bool.true_and];exact b⟩
theorem P8 (hp:args.any (·.1)=false)(h:aG M A (spliced args) (λvs s₁=>Q ⟨vs, []⟩ s₁) E s):aG M A (evalArgs f true args []) Q E s:=by
 have fin:∀vs s₁,Q ⟨vs, []⟩ s₁->aG M A (holding (vs++(none:Option Value).toList) (do let pos<-(pure vs:Sem (List Value));return (⟨pos, []⟩:Args))) Q E s₁:=λvs s₁ h₁=>aD (ag (aq (aq h₁)))
 have main:aG M A (do let vs<-spliced args;holding (vs++(none:Option Value).toList) (do let pos<-(pure vs:Sem (List Value));return (⟨pos, []⟩:Args))) Q E s:=ag (aA h λvs s₁ h₁=>fin vs s₁ h₁)
 cases args with
 |nil=>exact main
 |cons a r=>
  obtain ⟨b,x⟩:=a
  cases r with
  |nil=>
   cases b with
   |false=>exact main
   |true=>exact B6 hp
  |cons y r=>cases b<;>exact main
theorem pW (hp:args.any (·.1)=false)
  (h:aG M A (spliced args) (λvs s₁=>(∃k,(k=Keeper.frame∨k=Keeper.machine∨k=Keeper.boundFrame)/\Looks M s₁.heap (keeperOf f) k)/\aG M A (call f (first++vs) []) Q E s₁) E s):aG M A (callWith pos f first args []) Q E s:=by
 unfold callWith
 refine ag (aD (P8 hp (aA h λvs s₁ h₁=>ag (aB ?_))))
 obtain ⟨⟨k,hk,L⟩,h₁⟩:=h₁
 have tail:∀{t:Sem Value},aG M A t Q E s₁->aG M A (t>>=λr=>holding [r] point>>=λu8=>pure r) Q E s₁:=
  λht=>ag (aA ht λr s₂ hr=>ag (aD (uR (aq hr))))
 have marked (mk:Value):aG M A (callMarked mk f (first++vs) []) Q E s₁:=by unfold callMarked;exact FH h₁
 have two:∀{n:Nat} {mk:Value},aG M A (if n>30 then call f (first++vs) []>>=λr=>holding [r] point>>=λu8=>pure r else callMarked mk f (first++vs) []>>=λr=>holding [r] point>>=λu8=>pure r) Q E s₁:=λ{n mk}=>by
  by_cases e:n>30
  ·rw [if_pos e];exact tail h₁
  ·rw [if_neg e];exact tail (marked mk)
 rw [hp]
 refine ag (ap (L.here (show aG _ _ _ _ _ _ from ?_)))
 rcases hk with rfl|rfl|rfl
 ·exact two
 ·exact tail h₁
 ·exact two
theorem uX {id:Str}(h:aG M A (eval (.Name id p) env) (λf s₁=>aG M A (callWith pos f [] (backTo pos (starEach args env)) []) Q E s₁) E s):
  aG M A (eval (.Call (.Name id p) args [] pos) env) Q E s:=by
 rw [arm_eval_Call_Name']
 exact ag h
theorem Qp (ho:jM o=true)(hs:args.all (λe=> !stop e)=true)(hn:args.length<30)(hl:(apos.endLine==pos.line)=true)
  (h:aG M A (eval o env) (λov s₁=>∀pl,aG M A (getMethod ov name pl) (λfx s₂=>aG M A (callWith pos fx.1 fx.2 (backTo pos (starEach args env)) []) Q E s₂) E s₁) E s):
  aG M A (eval (.Call (.Attribute o name apos) args [] pos) env) Q E s:=by
 rw [arm_eval_Call,(pl o).base ho]
 refine ag (aA h λov s₁ h₁=>ag (aB ?_))
 have hf:methodCallForm (args.length+([]:List Keyword).length) (backTo pos (starEach args env)) (backToKw pos (keywordEach [] env))=true:=by
  unfold methodCallForm
  rw [(gy args pos hs).2]
  show (true&&true&&decide (args.length+0+0<30))=true
  simpa using hn
 unfold methodCall
 rw [hf]
 refine ag (aD ?_)
 unfold calleeOf
 rw [if_pos rfl]
 refine aA (h₁ _) λfx s₂ h₂=> ?_
 obtain ⟨f,first⟩:=fx
 have hp:methodCallPos true o env apos pos=pure pos:=by
  unfold methodCallPos
  rw [hl];rfl
 dsimp only
 rw [hp]
 exact ag (aq h₂)
end
noncomputable def fz (P:Heap->Prop){α:Type}:Sem α->Prop
 | .pure _=>True
 | .raise _=>True
 | .unsupported _=>True
 | .finish _=>True
 | .rule _ k=>fz P (k ())
 | .at _ k=>fz P (k ())
 | .load _ _ k=>∀o,fz P (k o)
 | .update a _ f k=>(∀h,P h->P (h.update a f))/\fz P (k ())
 | .alloc o k=>(∀h,P h->P (h.push o))/\∀a,fz P (k a)
 | .loadIfAlive _ k=>∀o,fz P (k o)
 | .point _ k=>fz P (k ())
 | .fresh k=>∀t,fz P (k t)
 | .ask k=>∀x,fz P (k x)
 | .handled _ k=>∀x,fz P (k x)
 | .stack k=>∀x,fz P (k x)
 | .thread k=>∀x,fz P (k x)
 |_=>False
section
variable {P:Heap->Prop}
theorem bQ {α β:Type}:∀{m:Sem α} {f:α->Sem β},fz P m->(∀a,fz P (f a))->fz P (m>>=f):=by
 intro m f hm hf
 show fz P (m.bind f)
 induction m with
 |pure a=>exact hf a
 |raise|unsupported|finish=>trivial
 |rule _ k ih|«at» _ k ih|point _ k ih=>exact ih () hm
 |load _ _ k ih|loadIfAlive _ k ih|fresh k ih|ask k ih|handled _ k ih|stack k ih|thread k ih=>exact λx=>ih x (hm x)
 |update a p g k ih=>exact ⟨hm.1,ih () hm.2⟩
 |alloc o k ih=>exact ⟨hm.1,λa=>ih a (hm.2 a)⟩
 |_=>exact hm.elim
theorem JY {α:Type}{Γ:PySem.Ctx}:∀{t:Sem α} {Q:α->Pos->Shared->Prop} {E:Value->Pos->Shared->Prop} {p:Pos} {s:Shared},fz P t->P s.heap->Sem.wp M Γ t Q E p s->Sem.wp M Γ t (λa p s=>Q a p s/\P s.heap) (λe p s=>E e p s/\P s.heap) p s:=by
 intro t
 induction t with
 |pure a=>intro Q E p s _ hp h;exact ⟨h,hp⟩
 |raise e=>intro Q E p s _ hp h;exact ⟨h,hp⟩
 |unsupported|finish=>intro Q E p s _ _ h;exact h.elim
 |rule _ k ih=>intro Q E p s hk hp h;exact ih () hk hp h
 |«at» q k ih=>intro Q E p s hk hp h;exact ih () hk hp h
 |point _ k ih=>intro Q E p s hk hp h;exact ih () hk hp h
 |load a _ k ih=>intro Q E p s hk hp h;obtain ⟨o,ho,h⟩:=h;exact ⟨o,ho,ih o (hk o) hp h⟩
 |loadIfAlive a k ih=>intro Q E p s hk hp h;exact ih _ (hk _) hp h
 |update a _ f k ih=>intro Q E p s hk hp h;exact ⟨h.1,ih () hk.2 (hk.1 _ hp) h.2⟩
 |alloc o k ih=>intro Q E p s hk hp h;exact ih _ (hk.2 _) (hk.1 _ hp) h
 |fresh k ih=>intro Q E p s hk hp h;exact ih _ (hk _) hp h
 |ask k ih=>intro Q E p s hk hp h;exact ih _ (hk _) hp h
 |handled o k ih=>intro Q E p s hk hp h;exact ih _ (hk _) hp h
 |stack k ih=>intro Q E p s hk hp h;exact ih _ (hk _) hp h
 |thread k ih=>intro Q E p s hk hp h;exact ih _ (hk _) hp h
 |_=>intro Q E p s hk _ _;exact hk.elim
theorem jp {α:Type}{t:Sem α}{Q:α->Shared->Prop}(hk:fz P t)(hp:P s.heap)(h:wpAny M A t Q E s):wpAny M A t (λa s' =>Q a s' /\P s'.heap) (λe s' =>E e s' /\P s'.heap) s:=
 λΓ p i=>JY hk hp (h Γ p i)
end
theorem l9 {p:Prop}{P:Heap->Prop}{α:Type}{t:Sem α}(h:fz P t):fz (λh=>p->P h) t:=by
 induction t with
 |pure|raise|unsupported|finish=>trivial
 |rule _ k ih|«at» _ k ih|point _ k ih=>exact ih () h
 |load _ _ k ih|loadIfAlive _ k ih|fresh k ih|ask k ih|handled _ k ih|stack k ih|thread k ih=>exact λx=>ih x (h x)
 |update a q g k ih=>exact ⟨λx y z=>h.1 x (y z),ih () h.2⟩
 |alloc o k ih=>exact ⟨λx y z=>h.1 x (y z),λa=>ih a (h.2 a)⟩
 |_=>exact h.elim
noncomputable def ec (e:Addr)(h:Heap):Prop:=∃o vs,h.get? e=some o/\o.data= .fields vs/\vs[2]? =some .none
section
variable {e:Addr}
theorem zH (x:ec e h):ec e (h.push o):=let ⟨ob,vs,a,b,c⟩:=x;⟨ob,vs,fL _ a,b,c⟩
theorem qR (hf:∀o vs,o.data= .fields vs->vs[2]? =some .none->∃ws,(f o).data= .fields ws/\ws[2]? =some .none)(x:ec e h):ec e (h.update a f):=by
 refine jX x λo vs h1 h2 h3=> ?_;clear x
 by_cases q:e=a
 ·subst q
  refine aZ (hf o vs h2 h3) λws w1 w2=> ?_
  exact ⟨_,ws,Heap.get?_update_self f h1 (Obj.isFreed_of_fields w1),w1,w2⟩
 ·exact ⟨o,vs,(Heap.get?_update_other h f (Ne.symm q)).trans h1,h2,h3⟩
theorem yl (hi:i≠2)(x:ec e h):ec e (h.update a (Obj.mapFields (·.setIfInBounds i v))):=
 qR (λo vs h1 h2=>⟨_,Obj.data_mapFields h1 _,by rw [Array.getElem?_setIfInBounds_ne hi];exact h2⟩) x
theorem uI:fz (ec e) (fieldsOf v):=by
 unfold fieldsOf
 cases v with
 |ref a=>
  refine bQ (m:=load a) (λo=>trivial) λo=> ?_
  split<;>trivial
 |_=>trivial
theorem lh:fz (ec e) (field v i):=by
 unfold field
 refine bQ uI λvs=> ?_
 split<;>trivial
theorem j5 (hi:i≠2):fz (ec e) (setField v i x):=by
 unfold setField
 cases v with
 |ref a=>
  show fz _ (updateField a i x)
  unfold updateField
  refine bQ (m:=load a) (λo=>trivial) λo=> ?_
  split
  ·split
   ·exact ⟨λh hp=>yl hi hp,trivial⟩
   ·trivial
  ·trivial
 |_=>trivial
theorem jC:fz (ec e) (setFlight v f):=by
 unfold setFlight
 refine bQ lh λtb=> ?_
 split
 ·exact j5 (by decide)
 ·trivial
theorem HO {f:List (Code×Pos)->Bool}:fz (ec e) (do return f (<-stack)):=λu8=>trivial
theorem uk:∀{l:List Env},fz (ec e) (keptBack env b l)
 | []=>by
  show fz (ec e) (if (env.scope.isGenerator||env.scope.isCoroutine)=true then pure Value.none else (do return if<-underTheClaimsCaller then .notImplemented else .none))
  split
  ·trivial
  ·refine bQ (m:=underTheClaimsCaller) (λu8=>trivial) λt=> ?_
   trivial
 |_::_=>trivial
theorem kj:∀{l:List Env},fz (ec e) (readyFrames l)
 | []=>trivial
 |env::outer=>by
  unfold readyFrames
  cases env.frame with
  |none=>trivial
  |some f=>
   refine bQ (m:=load f) (λo=>trivial) λo=> ?_
   split
   ·trivial
   ·refine bQ (m:=behindIsImport env outer) ?_ λim=>bQ uk λback=>bQ (m:=update f _) ⟨λh hp=>qR (λo vs h1 h2=>⟨vs,h1,h2⟩) hp,trivial⟩ λu8=>kj
    unfold behindIsImport
    split
    ·trivial
    ·split
     ·trivial
     ·exact bQ lh λu8=>trivial
theorem wg:fz (ec e) (PySem.frameOf env):=by
 unfold PySem.frameOf
 refine bQ (m:=frameEnvs) (λu8=>trivial) λl=>bQ ?_ λr=> ?_
 ·cases (l.dropWhile (·.frame !=env.frame)) with
  |nil=>trivial
  |cons a b=>exact bQ kj λu8=>trivial
 ·cases r<;>trivial
theorem ug:fz (ec e) (EntryCells.newEntry a b c d f l):=by
 unfold EntryCells.newEntry newFields newObj
 dsimp only
 generalize ([a,b,c,d,f]++if l.isEmpty=true then List.replicate 6 Value.none else l).toArray=xs
 split
 ·trivial
 ·exact ⟨λh hp=>zH hp,λu8=>trivial⟩
theorem pE:fz (ec e) (entryPlaceOf f b):=by
 unfold entryPlaceOf
 refine bQ (m:=stack) (λu8=>trivial) λXq=> ?_
 split<;>trivial
theorem lP:fz (ec e) (noteFrame v env):=by
 have fin:∀(f:Addr) (head:Value),fz (ec e) (do setField v 1 (<-EntryCells.newEntry head (<-PySem.frameOf env) .none (rawInt f) .none (<-entryPlaceOf f (head != .none)))):=λf head=>
  bQ wg λa=>bQ pE λpl=>bQ ug λb=>j5 (by decide)
 unfold noteFrame
 cases env.frame with
 |none=>trivial
 |some f=>
  refine bQ lh λhead=> ?_
  split
  ·refine bQ lh λx=> ?_
   split
   ·trivial
   ·exact bQ (j5 (by decide)) λu8=>fin f head
  ·exact fin f head
theorem pi:fz (ec e) (leaving env v):=bQ lP λu8=>jC
end
noncomputable def kG (c:Cx)(m:Str->Option Value)(k:Nat)(ac:ao)(ev:Value)(s:Shared):Prop:=
 ∃e t vs G,ev= .ref e/\RaisedS c.base G (c.env::c.outer) e (.ref (c.S.dD k)) t vs ac s.heap/\G.UpToSlots s.heap/\(∃g,KtsTurn c.fs c.g₀ g/\Fr g c.L G m)/\(c.S.HQ k=false->ec e s.heap)
structure CI (c:Cx)(ac:ao)(ah:dN)(H:HP)(s:Shared):Prop where
 nd:(ac.map (·.1)).Nodup
 hr:fG c.prog c.w c.S ac ah H
 cells:∀x a,c.cl.lookup x=some a->∃o v₀,(a,o)∈ac/\o.data= .cell v₀
 sh:s.gens=c.gens/\s.drawn=c.drawn/\s.os=c.os
noncomputable def bw {α β:Type}(rel:ao->dN->α->β->Prop)(c:Cx)(m:Str->Option Value)(ac:ao)(ah:dN)(o:dz α)(Q:β->Shared->Prop)(E:Value->Shared->Prop):Prop:=match o with
 | .ok x H' =>∀az bM s' rx,aV c m az bM H' s'->br [] ac ah az bM->rel az bM x rx->Q rx s'
 | .exc k H' =>∀az bM s' ev,CI c az bM H' s'->br [] ac ah az bM->kG c m k az ev s'->E ev s'
 | .bad=>False
noncomputable def yu:ao->dN->Bool->Bool->Prop:=λu8 u8 a b=>a=b
section
variable {α β γ δ:Type}{rel:ao->dN->α->β->Prop}{QI:ao->dN->γ->δ->Prop}{c:Cx}{m:Str->Option Value}{ac n' :ao}{ah l' :dN}{Q:β->Shared->Prop}{Q' :δ->Shared->Prop}{E:Value->Shared->Prop}
theorem bw.base {o:dz α}(x:br [] ac ah n' l')(h:bw rel c m ac ah o Q E):bw rel c m n' l' o Q E:=by
 cases o with
 |ok a H=>exact λn2 l2 s' r N X V=>h n2 l2 s' r N (x.trans X) V
 |exc k H=>exact λn2 l2 s' ev N X V=>h n2 l2 s' ev N (x.trans X) V
 |bad=>exact h
theorem bw.bind {o:dz α}{f:α->HP->dz γ}{Q1:β->Shared->Prop}(h:bw QI c m ac ah (o.bind f) Q' E)
  (k:∀x H1 n1 l1 s1 rx,aV c m n1 l1 H1 s1->br [] ac ah n1 l1->rel n1 l1 x rx->bw QI c m n1 l1 (f x H1) Q' E->Q1 rx s1):bw rel c m ac ah o Q1 E:=by
 cases o with
 |ok a H=>exact λn2 l2 s' r N X V=>k _ _ _ _ _ _ N X V (bw.base X h)
 |exc k' H=>exact h
 |bad=>exact h
theorem bw.mono {o:dz α}{Q1:β->Shared->Prop}(h:bw rel c m ac ah o Q E)(hq:∀r s,Q r s->Q1 r s):bw rel c m ac ah o Q1 E:=by
 cases o with
 |ok a H=>exact λn2 l2 s' r N X V=>hq _ _ (h n2 l2 s' r N X V)
 |exc k H=>exact h
 |bad=>exact h
end
structure CV where
 om:List (Str×Nat)
 sc:Scope
noncomputable def gq (v:CV)(x:Str)(i:Nat):Bool:=v.om.lookup x==some i&&(x !=("__debug__":Str))&&(x !=("__classdict__":Str))
noncomputable def eg (v:CV)(x:Str):Bool:=v.sc.names.lookup x==some .globalImplicit&&(x !=("__debug__":Str))
structure gT (c:Cx)(v:CV)(env:Env)(l:cR)(m:Str->Option Value)(ac:ao)(ah:dN):Prop where
 loc:∀x i val,gq v x i=true->l[i]? =some (some val)->∀n' l',br [] ac ah n' l'->∃rv,av n' l' val rv/\∀(H:HP) (s:Shared) A pos (Q:Value->Shared->Prop) (E:Value->Shared->Prop),aV c m n' l' H s->Q rv s->wpAny (model c.prog c.w) A (eval (.Name x pos) env) Q E s
 Ng:∀x rv,eg v x=true->nsIn c.K mainGlobals x=some (some rv)->∀n' l' (H:HP) (s:Shared) A pos (Q:Value->Shared->Prop) (E:Value->Shared->Prop),aV c m n' l' H s->Q rv s->wpAny (model c.prog c.w) A (eval (.Name x pos) env) Q E s
 VE:∀x rv,eg v x=true->nsIn c.K mainGlobals x=some none->bootBuiltins x=some rv->x≠ "__name__"->∀n' l' (H:HP) (s:Shared) A pos (Q:Value->Shared->Prop) (E:Value->Shared->Prop),aV c m n' l' H s->Q rv s->wpAny (model c.prog c.w) A (eval (.Name x pos) env) Q E s
theorem gT.ext (e:gT c v env l m ac ah)(x:br [] ac ah n' l'):gT c v env l m n' l' :=
 ⟨λy i val h1 h2 n2 l2 x2=>e.loc y i val h1 h2 n2 l2 (x.trans x2),e.Ng,e.VE⟩
noncomputable def D7 (S:ls):MK->Value
 | .fn f=> .ref (S.oD f)
 | .nf=> .builtin "list.append"| .pz=> .builtin "bytearray.append"| .oV=> .builtin "bytearray.extend"| .iW=> .builtin "dict.get"
section
variable {c:Cx}{d:Nat}{m:Str->Option Value}{ac:ao}{ah:dN}{H:HP}{s:Shared}{A:Around}{E:Value->Shared->Prop}
theorem mz (hn:aV c m ac ah H s){K:Type}[DecidableEq K]{knd:PySem.KeyKind c.prog c.w K}{kvs:List (K×Value)}{pl:Sem Bool}(hm:(a,o)∈ac)(h:o.IsDictOf knd kvs)(q:Q (.builtin "dict.get", [.ref a]) s):
  wpAny (model c.prog c.w) A (getMethod (.ref a) "get" pl) Q E s:=by
 have hd:=kJ hn hm h
 exact getMethod_builtin hd.typeIs PySem.F.plainAttrs_dict PySem.F.slot_dict_get PySem.F.type_dict_get hd.mapOf.noDict q
theorem W6 {p:Prop}[Decidable p]{α:Type}{x y:α}{P:Prop}(e:(if p then some x else none)=some y)(k:p->x=y->P):P:=by
 split at e
 ·exact k ‹_› (cq e)
 ·exact fh e
theorem Aq {P:PI}{k:MK}{C:Prop}(e:d7 P o n H=some k)(h:∀i so,o= .ref i->H[i]? =some so->(match so with
  | .inst c fs=>∃f,P.mD c n=some f/\fQ n fs=none/\k= .fn f
  | .list _=>n=P.mc.append/\k= .nf
  | .cj _=>(n=P.mc.append/\k= .pz)∨(n=P.mc.extend/\k= .oV)
  |_=>n=P.mc.get/\k= .iW)->C):C:=by
 have D:∀{x:Nat} {y:MK},(if n=x then some y else none)=some k->n=x/\k=y:=λe=>W6 e λa b=>⟨a,b.symm⟩
 cases o with
 |ref i=>
  change (match H[i]? with
   |some (.inst c fs)=>match P.mD c n,fQ n fs with
    |some f,none=>some (.fn f)
    |_,_=>none
   |some (.list _)=>if n=P.mc.append then some .nf else none
   |some (.cj _)=>if n=P.mc.append then some .pz else if n=P.mc.extend then some .oV else none
   |some .aM=>if n=P.mc.get then some .iW else none
   |some (.cg _)=>if n=P.mc.get then some .iW else none
   |some (.dB _)=>if n=P.mc.get then some .iW else none
   |none=>none)=some k at e
  cases hO:H[i]? with
  |none=>rw [hO] at e;exact fh e
  |some so=>
   rw [hO] at e
   refine h i so rfl hO ?_
   cases so with
   |inst c fs=>
    change (match P.mD c n,fQ n fs with|some f,none=>some (MK.fn f)|_,_=>none)=some k at e
    cases h1:P.mD c n with
    |none=>rw [h1] at e;exact fh e
    |some f=>cases h2:fQ n fs with
     |some _=>rw [h1,h2] at e;exact fh e
     |none=>rw [h1,h2] at e;exact ⟨f,h1,h2,(cq e).symm⟩
   |list _=>exact D e
   |cj _=>
    by_cases q:n=P.mc.append
    ·exact .inl ⟨q,(cq ((if_pos q).symm.trans e)).symm⟩
    ·exact .inr (D ((if_neg q).symm.trans e))
   |aM=>exact D e
   |cg _=>exact D e
   |dB _=>exact D e
 |_=>exact fh e
theorem BM (ok:c.Ok d)(hn:aV c m ac ah H s){k:MK}{pl:Sem Bool}(ho:av ac ah o ro)(e:d7 c.P o n H=some k)
  (q:Q (D7 c.S k, [ro]) s):wpAny (model c.prog c.w) A (getMethod ro (c.S.attr n) pl) Q E s:=by
 refine Aq e λi so eo hO hk=> ?_
 refine aZ (cK eo ho) λp gP hp=> ?_;subst gP
 refine hn.gE λg T F N=> ?_
 have DE:=ov (hn.hr.obj i so p hO hp)
 cases so with
 |inst cc fs=>
  refine mF hk λf h1 h2 wN=> ?_;clear hk;subst wN
  refine xM DE λes nn hm hd hf hl=> ?_;clear DE
  obtain ⟨b1,b2⟩:=ok.mM.mD cc n f h1
  unfold kW at b1
  unfold rO at b2
  simp only [Bool.and_eq_true,beq_iff_eq] at b1 b2
  exact method_inst F (ok.qn T) (InstAt.of_news N hm hd) b1.1.2 b2.1.1 b2.1.2 (hf.miss ok.mM.inj h2) q
 |list vs=>
  obtain ⟨rfl,rfl⟩:=hk
  refine uz DE λu8 u8 hm u8=> ?_;clear DE
  rw [ok.mM.Mw]
  exact getMethod_append_N N hm q
 |cj b=>
  refine aZ DE λu8 hm u8=> ?_;clear DE
  rcases hk with ⟨rfl,rfl⟩|⟨rfl,rfl⟩
  ·rw [ok.mM.Mw]
   exact vp (N _ hm).1 my tK q
  ·rw [ok.mM.PJ]
   exact vp (N _ hm).1 mB tM q
 |aM=>
  obtain ⟨rfl,rfl⟩:=hk
  refine mF DE λu8 hm u8 hd=> ?_;clear DE
  rw [ok.mM.IU]
  exact mz hn hm (hd _ (intKind c.prog c.w)) q
 |cg kvs=>
  obtain ⟨rfl,rfl⟩:=hk
  refine xM DE λu8 u8 hm u8 hd u8=> ?_;clear DE
  rw [ok.mM.IU]
  exact mz hn hm hd q
 |dB kvs=>
  obtain ⟨rfl,rfl⟩:=hk
  refine xM DE λu8 u8 hm u8 hd u8=> ?_;clear DE
  rw [ok.mM.IU]
  exact mz hn hm hd q
theorem pL (nd:(ac.map (·.1)).Nodup)(N:News g L h ac)(hm:(D,o)∈ac)(hs:Heap.SameBut D h h')(sK:h'.get? D=some o'):News g L h' (eN D o' ac):=by
 refine xM ((rP nd hm).split) λpre post e1 e2 e3 e4=> ?_
 have:=(e1▸N:News g L h (pre++(D,o)::post)).setAt e3 e4 hs sK
 rw [e2];exact this
theorem B9 (h:KBw.bInts dm=b)(h0:0<=i)(h1:i<256):KBw.bInts (dm.push i.toNat.toUInt8)=b++ [i]:=by
 rw [<-h,KBw.ints_list,KBw.ints_list,Array.toList_push,eJ]
 show _++ [((i.toNat.toUInt8.toNat:Nat):Int)]=_
 rw [byte_back h0 h1]
theorem uD {R:au}{C:MK->SV->List SV->dz SV->Prop}(bad:∀{k o as},C k o as .bad)(fn:∀f o as,C (.fn f) o as (R f (o::as) H))(la:∀r v vs,H[r]? =some (.list vs)->vs.length<big->C .nf (.ref r) [v] (.ok .none (H.set r (.list (vs++ [v])))))
  (ba:∀r i b,H[r]? =some (.cj b)->l6 i=true/\b.length<big->C .pz (.ref r) [.int i] (.ok .none (H.set r (.cj (b++ [i]))))) (be:∀r x b,H[r]? =some (.cj b)->b.length+x.length<=big->C .oV (.ref r) [.bytes x] (.ok .none (H.set r (.cj (b++x)))))
  (dg:∀r k o x,H[r]? =some o->iq k o=some x->C .iW (.ref r) [k] (.ok (x.getD .none) H)) (k:MK) (o:SV) (as:List SV):C k o as (dl R k o as H):=by
 have two:∀(v w:SV) (as:List SV) k,(∀f,k≠ .fn f)->C k o (v::w::as) (dl R k o (v::w::as) H):=λv w as k hk=>by
  cases k with
  |fn f=>exact absurd rfl (hk f)
  |nf=>cases o<;>exact bad
  |pz=>cases o<;>cases v<;>exact bad
  |oV=>cases o<;>cases v<;>exact bad
  |iW=>cases o<;>exact bad
 cases k with
 |fn f=>exact fn f o as
 |nf=>cases as with
  |nil=>cases o<;>exact bad
  |cons v as=>cases as with
   |cons w as=>exact two v w as _ nofun
   |nil=>cases o with
    |ref r=>
     show C _ _ _ (match H[r]? with|some (.list vs)=>if vs.length<big then .ok .none (H.set r (.list (vs++ [v]))) else .bad|_=> .bad)
     cases hO:H[r]? with
     |none=>exact bad
     |some o=>cases o with
      |list vs=>
       show C _ _ _ (if vs.length<big then .ok .none (H.set r (.list (vs++ [v]))) else .bad)
       split
       ·exact la r v vs hO ‹_›
       ·exact bad
      |_=>exact bad
    |_=>exact bad
 |pz=>cases as with
  |nil=>cases o<;>exact bad
  |cons v as=>cases as with
   |cons w as=>exact two v w as _ nofun
   |nil=>cases o with
    |ref r=>cases v with
     |int i=>
      show C _ _ _ (match H[r]? with|some (.cj b)=>if l6 i=true/\b.length<big then .ok .none (H.set r (.cj (b++ [i]))) else .bad|_=> .bad)
      cases hO:H[r]? with
      |none=>exact bad
      |some o=>cases o with
       |cj b=>
        show C _ _ _ (if l6 i=true/\b.length<big then .ok .none (H.set r (.cj (b++ [i]))) else .bad)
        split
        ·exact ba r i b hO ‹_›
        ·exact bad
       |_=>exact bad
     |_=>exact bad
    |_=>exact bad
 |oV=>cases as with
  |nil=>cases o<;>exact bad
  |cons v as=>cases as with
   |cons w as=>exact two v w as _ nofun
   |nil=>cases o with
    |ref r=>cases v with
     |bytes x=>
      show C _ _ _ (match H[r]? with|some (.cj b)=>if b.length+x.length<=big then .ok .none (H.set r (.cj (b++x))) else .bad|_=> .bad)
      cases hO:H[r]? with
      |none=>exact bad
      |some o=>cases o with
       |cj b=>
        show C _ _ _ (if b.length+x.length<=big then .ok .none (H.set r (.cj (b++x))) else .bad)
        split
        ·exact be r x b hO ‹_›
        ·exact bad
       |_=>exact bad
     |_=>exact bad
    |_=>exact bad
 |iW=>cases as with
  |nil=>cases o<;>exact bad
  |cons v as=>cases as with
   |cons w as=>exact two v w as _ nofun
   |nil=>cases o with
    |ref r=>
     show C _ _ _ (match H[r]? with
      |some o=>match iq v o with
       |some x=> .ok (x.getD .none) H
       |none=> .bad
      |none=> .bad)
     cases hO:H[r]? with
     |none=>exact bad
     |some o=>
      show C _ _ _ (match iq v o with
       |some x=> .ok (x.getD .none) H
       |none=> .bad)
      cases q:iq v o with
      |none=>exact bad
      |some x=>exact dg r v o x hO q
    |_=>exact bad
section
variable {Q:Value->Shared->Prop}{r:Nat}{p:Nat×Nat}
theorem Mm (hn:aV c m ac ah H s)(hp:ah[r]? =some p)(hO:H[r]? =some (.list vs))(lN:vs.length<big)(hv:av ac ah v rv)(h:bw av c m ac ah (.ok .none (H.set r (.list (vs++ [v])))) Q E):wpAny (model c.prog c.w) A (call (.builtin "list.append") [.ref p.1,rv]) Q E s:=by
 refine hn.gE λg T F N=> ?_
 refine jX (gp (hn.hr.obj r _ p hO hp)) λEQ nn hm nH hl=> ?_
 refine append_at (N _ hm).1 (λh' hs sK=> ?_) (by have YJ:vs.length<4096:=lN;rw [List.size_toArray,eT,<-nH.length];exact lA ‹_› rfl)
 have Y1:h'.get? p.1=some (listOf (EQ++ [rv]).toArray (nn+1)):=by rw [sK];simp
 have X:br [] ac ah (eN p.1 (listOf (EQ++ [rv]).toArray (nn+1)) ac) ah:=br.rep hn.nd hm rfl rfl
 exact h _ _ {s with heap:=h' } .none (hn.turn (t:=s.toks) T (F.change hs (N _ hm).2.1 (N _ hm).2.2) (pL hn.nd N hm hs Y1) hp (.inl rfl) hm rfl rfl (.list (dE hm) ((nH.append (.cons hv .nil)).ext X) (by rw [aL,List.length_singleton];exact lN))) X .none
theorem Hq (hn:aV c m ac ah H s){b b' :By}(hp:ah[r]? =some p)(hm:(p.1,eP dm)∈ac)(hb:KBw.bInts Ox=b')(hl:b'.length<=big)(hs:Heap.SameBut p.1 s.heap h')(sK:h'.get? p.1=some (eP Ox))(h:bw av c m ac ah (.ok .none (H.set r (.cj b'))) Q E):Q .none {s with heap:=h' }:=by
 refine hn.gE λg T F N=> ?_
 exact h _ _ {s with heap:=h' } .none (hn.turn (t:=s.toks) T (F.change hs (N _ hm).2.1 (N _ hm).2.2) (pL hn.nd N hm hs sK) hp (.inl rfl) hm rfl rfl (.cj (dE hm) hb hl)) (br.rep hn.nd hm rfl rfl) .none
theorem M6 (hg:A.guards=some [])(hn:aV c m ac ah H s)(hp:ah[r]? =some p)(hO:H[r]? =some (.cj b))(lN:l6 i=true/\b.length<big)(h:bw av c m ac ah (.ok .none (H.set r (.cj (b++ [i])))) Q E):aG (model c.prog c.w) A (call (.builtin "bytearray.append") [.ref p.1, .int i t]) Q E s:=by
 refine mF (ov (hn.hr.obj r _ p hO hp)) λdm hm hb hl=> ?_
 have N:=hn.addr hm
 have hz:0<=i/\i<256:=by
  have:=lN.1
  unfold l6 at this
  simpa using this
 have wU:dm.size=b.length:=by rw [<-KBw.ints_length,hb]
 have Pe:b.length<4096:=lN.2
 refine Db hg N hz.1 hz.2 (by rw [eT];lia) λh' hs sK=>Hq hn (b:=b) hp hm (B9 hb.symm hz.1 hz.2) (by rw [aL,List.length_singleton];exact lN.2) hs sK h
theorem MT (hg:A.guards=some [])(hn:aV c m ac ah H s)(hp:ah[r]? =some p)(hO:H[r]? =some (.cj b))(lN:b.length+(KBw.bInts cc).length<=big)(h:bw av c m ac ah (.ok .none (H.set r (.cj (b++KBw.bInts cc)))) Q E):aG (model c.prog c.w) A (call (.builtin "bytearray.extend") [.ref p.1, .bytes cc t]) Q E s:=by
 refine mF (ov (hn.hr.obj r _ p hO hp)) λdm hm hb hl=> ?_
 have N:=hn.addr hm
 have Pe:b.length+(KBw.bInts cc).length<=4096:=lN
 rw [hb,KBw.ints_length,KBw.ints_length] at Pe
 refine B7 hg N (by rw [Array.size_append,eT];exact lA ‹_› rfl) λh' hs sK=>Hq hn (b:=b) hp hm (KBw.ints_app hb.symm rfl) (by rw [aL];exact lN) hs sK h
theorem LF (hn:aV c m ac ah H s)(hp:ah[r]? =some p)(hO:H[r]? =some o)(hk:av ac ah k rk)(q:iq k o=some x)(h:bw av c m ac ah (.ok (x.getD .none) H) Q E):wpAny (model c.prog c.w) A (call (.builtin "dict.get") [.ref p.1,rk]) Q E s:=by
 obtain ⟨lo,FX,Nd,Gj⟩:=sB hn hp hO hk q
 refine call_meetsIn PySem.F.slot_dict_get FX.typeIs PySem.F.entry_dict_get (PySem.F.args_dict_get_2 _ _) (meets_dict_get _ _ Nd lo) ⟨_,FX.mapOf, ?_⟩
 rcases Gj with ⟨rfl,z2⟩|⟨v',r,rfl,z2,z3⟩
 ·rw [z2]
  exact h _ _ {s with toks:=s.toks+1} .none (hn.toks _) br.refl .none
 ·rw [z2]
  exact h _ _ {s with toks:=s.toks+1} r (hn.toks _) br.refl z3
end
theorem pr (ok:c.Ok d)(hg:A.guards=some [])(hn:aV c m ac ah H s){R:au}{k:MK}(hk:∀f,k≠ .fn f)(ho:av ac ah o ro)(has:aI ac ah as rs)
  (h:bw av c m ac ah (dl R k o as H) Q E):aG (model c.prog c.w) A (call (D7 c.S k) (ro::rs)) Q E s:=by
 refine uD (R:=R) (C:=λk o as z=>(∀f,k≠ .fn f)->av ac ah o ro->aI ac ah as rs->bw av c m ac ah z Q E->aG (model c.prog c.w) A (call (D7 c.S k) (ro::rs)) Q E s) (λu8 u8 u8 h=>h.elim) (λf u8 u8 hk=>absurd rfl (hk f))
  (λr v vs hO hl u8 ho has h=> ?_) (λr i b hO hl u8 ho has h=> ?_) (λr x b hO hl u8 ho has h=> ?_) (λr k o x hO hx u8 ho has h=> ?_) k o as hk ho has h
 ·refine aZ (cK rfl ho) λu8 gP hp=> ?_;subst gP
  refine aZ (qA has) λu8 gP hv=> ?_;subst gP
  exact ap (Mm hn hp hO hl hv h)
 ·refine aZ (cK rfl ho) λu8 gP hp=> ?_;subst gP
  refine aZ (qA has) λu8 gP hv=> ?_;subst gP
  obtain ⟨_,rfl⟩:=aQ hv
  exact M6 hg hn hp hO hl h
 ·refine aZ (cK rfl ho) λu8 gP hp=> ?_;subst gP
  refine aZ (qA has) λu8 gP hv=> ?_;subst gP
  refine jX (bh hv) λu8 u8 de wN u8=> ?_;subst de;subst wN
  exact MT hg hn hp hO hl h
 ·refine aZ (cK rfl ho) λu8 gP hp=> ?_;subst gP
  refine aZ (qA has) λu8 gP hv=> ?_;subst gP
  exact ap (LF hn hp hO hv hx h)
end
structure lM (c:Cx)(n k:Nat)(A:Around):Prop where
 frames:A.frames=some (c.env::c.outer)
 hand:A.handled=none
 guards:A.guards=some []
 Gc:1<=A.depth
 Ea:3<=A.units
 depth:A.depth+10*n+k<=400
 units:A.units+100*n+k<=4000
theorem lM.le (h:lM c n k A)(e:k' <=k):lM c n k' A:=⟨h.frames,h.hand,h.guards,h.Gc,h.Ea,by have:=h.depth;lia,by have:=h.units;lia⟩
theorem lM.make (h:lM c n (k+1) A)(C:Addr)(aH:List Value)(kw:List (Str×Value)):lM c n k (A.under (.builtin "type.__call__" ⟨.ref C::aH,kw⟩)):=by
 have e0:(Code.builtin "type.__call__" ⟨.ref C::aH,kw⟩).isGuard=false:=by
  show guardIds.contains "type.__call__"=false
  decide+kernel
 have w:(Code.builtin "type.__call__" ⟨.ref C::aH,kw⟩).weight=1:=by
  unfold Code.weight
  rw [e0]
  rfl
 have g:(Code.builtin "type.__call__" ⟨.ref C::aH,kw⟩).guards= []:=by
  unfold Code.guards
  rw [e0]
  rfl
 refine ⟨?_,h.hand, ?_, ?_, ?_, ?_, ?_⟩
 ·unfold Around.under
  rw [h.frames];rfl
 ·unfold Around.under
  rw [g,h.guards];rfl
 ·exact cy h.Gc (gU _ _)
 ·exact cy h.Ea (gU _ _)
 ·show A.depth+(Code.builtin "type.__call__" ⟨.ref C::aH,kw⟩).weight+10*n+k<=400
  rw [w]
  have:=h.depth
  lia
 ·show A.units+1+100*n+k<=4000
  have:=h.units
  lia
noncomputable def NW (Q:Value->Shared->Prop)(E:Value->Shared->Prop):Result->Shared->Prop:=λr s' =>match r with
 | .ok (.ret v)=>Q v s'
 | .ok _=>False
 | .error e=>E e s'
noncomputable def d5 (c:Cx)(n:Nat)(R:au):Prop:=∀A,lM c n 0 A->∀f as H m ac ah s rs Q E,aV c m ac ah H s->aI ac ah as rs->bw av c m ac ah (R f as H) Q E->
 fe (model c.prog c.w) A (.call (.ref (c.S.oD f)) ⟨rs, []⟩) (NW Q E) s
section
variable {c:Cx}{d n k:Nat}{m:Str->Option Value}{ac:ao}{ah:dN}{H:HP}{s:Shared}{A:Around}{E:Value->Shared->Prop}
theorem CC:eC v a H≠ .exc j H' :=by
 intro h;unfold eC at h;(repeat' split at h)<;>cases h
theorem mj:(dz.bad:dz SV)≠ .exc j H' :=nofun
theorem eV:dz.ok x H≠ .exc j H' :=nofun
theorem A3 {p:Prop}[Decidable p]:(if p then dz.ok x H else .bad)≠ .exc j H' :=by split<;>nofun
theorem K0 {vs:List SV}:(match cP i vs.length,vs[cw i vs.length]? with|true,some v=>dz.ok v H|_,_=> .bad)≠ .exc j H' :=by
 cases cP i vs.length with
 |false=>exact mj
 |true=>cases vs[cw i vs.length]? with
  |none=>exact mj
  |some _=>exact eV
theorem Hu {v i:SV}{H H' :HP}{j:Nat}:dH v i H≠ .exc j H' :=vz (C:=λu8 u8 z=>z≠ .exc j H') mj (λu8 u8=>A3) (λu8 u8=>K0) (λu8 u8 u8 u8=>K0) (λu8 u8 u8 u8 u8 u8=>eV) v i
theorem zk:f6 v a b H≠ .exc j H' :=slice_cases (C:=λu8 u8 u8 z=>z≠ .exc j H') mj (λu8 u8 u8 u8 u8=>eV) (λu8 u8 u8 u8=>eV) (λu8 u8 u8 u8 u8 u8 u8=>eV) v a b
theorem Ec:cE op a b H≠ .exc j H' :=u4 (C:=λu8 u8 u8 z=>z≠ .exc j H') mj (λop u8 u8=>by cases op<;>first|exact eV|exact A3) (λu8 u8=>A3) (λu8 u8 u8 u8 u8 u8=>A3) op a b
theorem EI:yA b v H≠ .exc j H' :=qK (C:=λu8 u8 z=>z≠ .exc j H') mj (λu8=>eV) (λu8=>eV) (λu8 u8 u8=>eV) (λu8=>eV) (λu8 u8 u8=>eV) (λu8 u8 u8=>eV) (λu8 u8 u8 u8 u8 u8=>eV) (λu8 u8=>eV) (λu8 u8 u8=>eV) (λu8 u8=>eV) (λu8 u8 u8=>eV) (λu8 u8=>eV) (λu8 u8 u8 u8 u8 u8=>eV) (λu8 u8 u8 u8=>eV) (λu8 u8=>eV) (λu8 u8 u8 u8 u8=>eV) b v
theorem F0:yX b v w H≠ .exc j H' :=qW (C:=λu8 u8 u8 z=>z≠ .exc j H') mj (λu8 u8 u8=>eV) (λu8 u8=>eV) b v w
theorem Ei:bG b as H≠ .exc j H' :=qU (C:=λu8 u8 z=>z≠ .exc j H') mj eV (λu8 u8=>EI) (λu8 u8 u8=>F0) b as
theorem KJ (ok:c.Ok d)(hn:aV c m ac ah H s)(hv:av ac ah v rv)(h:bw av c m ac ah (eC v a H) Q E):aG (model c.prog c.w) A (getAttr rv (c.S.attr a) true) Q E s:=by
 cases e:eC v a H with
 |ok x H' =>rw [e] at h;exact ap (I6 ok hn hv e λrx t hx hH=>by subst hH;exact h _ _ _ _ (hn.toks t) br.refl hx)
 |exc j H' =>exact (CC e).elim
 |bad=>rw [e] at h;exact h.elim
theorem Tz (ok:c.Ok d)(hn:aV c m ac ah H s){value slice:Expr}(hs:stop slice=false)(ho:av ac ah o ro)(hi:av ac ah i ri)(h:bw av c m ac ah (dH o i H) Q E):
  aG (model c.prog c.w) A (subscriptTail value slice ro ri) Q E s:=by
 cases e:dH o i H with
 |ok x H' =>rw [e] at h;exact ap (Em ok hn hs ho hi e λrx t hx hH=>by subst hH;exact h _ _ _ _ (hn.toks t) br.refl hx)
 |exc j H' =>exact (Hu e).elim
 |bad=>rw [e] at h;exact h.elim
theorem Sb (ok:c.Ok d)(hn:aV c m ac ah H s)(ha:av ac ah a ra)(hb:av ac ah b rb)(h:bw av c m ac ah (cE op a b H) Q E):aG (model c.prog c.w) A (binaryOp (lI op) ra rb) Q E s:=by
 cases e:cE op a b H with
 |ok x H' =>rw [e] at h;exact ap (Ey ok hn ha hb e h)
 |exc j H' =>exact (Ec e).elim
 |bad=>rw [e] at h;exact h.elim
theorem M8 (ok:c.Ok d)(hn:aV c m ac ah H s)(ho:av ac ah o ro)(ha:av ac ah a ra)(hb:av ac ah b rb)(h:bw av c m ac ah (f6 o a b H) Q E):
  aG (model c.prog c.w) A (subscriptTail value (.Slice lower upper none p) ro (.ref s.heap.objs.size)) Q E {s with heap:=s.heap.push {cls:= .type "slice",data:= .fields #[ra,rb, .none]}}:=by
 cases e:f6 o a b H with
 |ok x H' =>rw [e] at h;exact ap (Fg ok hn ho ha hb e h)
 |exc j H' =>exact (zk e).elim
 |bad=>rw [e] at h;exact h.elim
theorem MV (ok:c.Ok d)(hA:lM c n k A)(hn:aV c m ac ah H s)(has:aI ac ah as rs)(h:bw av c m ac ah (bG b as H) Q E):aG (model c.prog c.w) A (call (fm b) rs) Q E s:=by
 cases e:bG b as H with
 |ok x H' =>rw [e] at h;exact EY ok hA.hand hA.guards hn has e h
 |exc j H' =>exact (Ei e).elim
 |bad=>rw [e] at h;exact h.elim
theorem PX (hA:lM c n k A)(hn:aV c m ac ah H s){f:Bool->HP->dz SV}(ha:av ac ah a ra)(hb:av ac ah b rb)(h:bw av c m ac ah ((fj (bV op a b H) H).bind λr H=> .ok (.bool r) H) Q E):
  aG (model c.prog c.w) A (compareOp (tp op) ra rb) Q E s:=by
 cases e:bV op a b H with
 |some r=>rw [e] at h;exact ap (Fz hn (by have:=hA.units;lia) ha hb e λt=>h _ _ _ _ (hn.toks t) br.refl (.bool r))
 |none=>rw [e] at h;exact h.elim
theorem wC (hn:aV c m ac ah H s)(ha:av ac ah a ra)(h:bw yu c m ac ah (fj (eO a H) H) Q E):aG (model c.prog c.w) A (truthy ra) Q E s:=by
 cases e:eO a H with
 |some r=>rw [e] at h;exact ap (uJ hn ha e λt=>h _ _ _ _ (hn.toks t) br.refl rfl)
 |none=>rw [e] at h;exact h.elim
theorem E7 (hn:aV c m ac ah H s)(hv:aI ac ah vs rs)(hl:vs.length<=big)(h:bw av c m ac ah (.ok (.tuple vs) H) Q E):aG (model c.prog c.w) A (newTuple rs) Q E s:=by
 refine hn.gE λg T F N=> ?_
 have wb:big=4096:=rfl
 refine ap (newTuple_N F N (λh' F' N' => ?_) (by rw [<-hv.length,eT];exact lA ‹_› rfl))
 refine rm (kh (t:=s.toks) hn T F' N' hn.lt hv hl) λa1 a2 a3=> ?_
 exact h _ _ _ _ a1 a2 a3
theorem ND (hn:aV c m ac ah H s)(hv:aI ac ah vs rs)(hl:vs.length<=big)(h:bw av c m ac ah (.ok (.ref H.length) (H++ [.list vs])) Q E):aG (model c.prog c.w) A (newList rs) Q E s:=by
 refine hn.gE λg T F N=> ?_
 have wb:big=4096:=rfl
 refine ap (newList_N F N (λh' F' N' => ?_) (by rw [<-hv.length,eT];exact lA ‹_› rfl))
 refine rm (jm (n:=0) (t:=s.toks) hn T F' N' hn.lt hv hl) λa1 a2 a3=> ?_
 exact h _ _ _ _ a1 a2 a3
theorem tP {K:Type}[DecidableEq K](knd:PySem.KeyKind prog w K):(dictOf [] 0).IsDictOf knd []:=by
 refine aZ (Heap.dictOf_iff.mp (Heap.DictOf.new (knd:=knd) ({}:Heap))) λo ho hd=> ?_
 rw [Heap.get?_push_size _ rfl] at ho
 cases ho;exact hd
theorem Gx (hn:aV c m ac ah H s){t:Nat}(T:KtsTurn c.fs c.g₀ g)(F:Fr g c.L h' m)(N:News g c.L h' ((D,dictOf [] 0)::ac))(lt:∀q∈ac,q.1<D)(hD:(D==sysModules)=false):
  aV c m ((D,dictOf [] 0)::ac) (ah++ [(D,D)]) (H++ [.aM]) {s with heap:=h',toks:=t}/\br [] ac ah ((D,dictOf [] 0)::ac) (ah++ [(D,D)])/\av ((D,dictOf [] 0)::ac) (ah++ [(D,D)]) (.ref H.length) (.ref D):=
 have X:br [] ac ah ((D,dictOf [] 0)::ac) (ah++ [(D,D)]):=br.app _ _
 ⟨hn.new T F N lt (.aM (.head _) hD λK u8 knd=>tP knd),X,rK hn⟩
theorem Mj (ok:c.Ok d)(hn:aV c m ac ah H s)(h:bw av c m ac ah (.ok (.ref H.length) (H++ [.aM])) Q E):aG (model c.prog c.w) A (eval (.Dict [] [] pos) env) Q E s:=by
 refine hn.gE λg T F N=> ?_
 refine ap (show wpAny (model c.prog c.w) A (do standAt pos;newDict) Q E s from ar (wpAny_standAt ?_))
 refine rm (Gx (t:=s.toks) hn T (F.push _) (N.push F (dictOf [] 0)) hn.lt (F.notModules (modules_low ((ok.top.keeps (ok.stays T)).nolimit)))) λa1 a2 a3=> ?_
 exact wpAny_newObj_type (h _ _ _ _ a1 a2 a3)
end
section
variable {α:Type}{M:Model}{A:Around}{E:Value->Shared->Prop}{s:Shared}
theorem u0 {β:Type}{t:Sem β}{r:β}{f:β->Sem α}{Q:α->Shared->Prop}(x:Looks M s.heap t r)(q:aG M A (f r) Q E s):aG M A (t>>=f) Q E s:=
 ag (ap (x.here q))
theorem Qc {c:Prop}[Decidable c]{a b:Sem α}{Q:α->Shared->Prop}(hc:¬c)(h:aG M A b Q E s):aG M A (if c then a else b) Q E s:=by rw [if_neg hc];exact h
end
section
variable {prog:Program}{w:World}{A:Around}{K:Frag}{C:Addr}{R:Result->Shared->Prop}{h:Heap}{g:Array GenState}{d:Drawn}{t:Nat}{os:OsState}
theorem qM {R:Result->Shared->Prop}(hq:c.quiet=true)(hc:sd c=true)(h:fe (model prog w) A c R s):MJ (model prog w) A R (.again c) s:=⟨hq,hc,h⟩
set_option maxHeartbeats 4000000 in
theorem zr (Y:Makes (model prog w) h C)(hi:Looks (model prog w) h (typeLookup (.ref C) "__init__") (some init))
  (hb:∀self,Looks (model prog w) h (bindSpecial init self) (init, [self])) (lF:(some init !=some (Value.builtin "object.__init__"))=true)
  (hq:fe (model prog w) (A.under (.builtin "type.__call__" ⟨.ref C::aH, []⟩)) (.call init ⟨.ref (h.objs.size+1)::aH, []⟩) (InitBack (h.objs.size+1) R) ⟨(h.push emptyDict).push (instObj C h.objs.size),g,d,t,os⟩):
  fe (model prog w) A (.call (.ref C) ⟨aH, []⟩) R ⟨h,g,d,t,os⟩:=by
 have Y' :=Y
 obtain ⟨⟨oc,od,cd,sl,hC,e1,e2,e4⟩,made,base,self,top,call,typ⟩:=Y
 have hm:Looks (model prog w) h (mroOf (.ref C)) cd.mro:=((Looks.ld (part:=none) hC).andThen .now).andThen .now
 refine dI ?_
 show aG _ _ (callAny (.ref C) ⟨aH, []⟩) _ _ _
 refine ag (ap (wpAny_load hC ?_))
 show aG _ _ (callAny.viaDunder (.ref C) _) _ _ _
 unfold callAny.viaDunder
 refine u0 call ?_
 dsimp only
 rw [tc_bind]
 refine ag (aq ?_)
 refine ag (m:=callAny.plainCallee (.builtin "type.__call__")) (aq ?_)
 refine aq (a:=Fin.again (.call (.builtin "type.__call__") ⟨.ref C::aH, []⟩)) (qM rfl rfl ?_)
 refine dI ?_
 show aG _ A.in1 (do checkBuiltinCall "type.__call__" ⟨.ref C::aH, []⟩;again (.builtin "type.__call__" ⟨.ref C::aH, []⟩)) _ _ _
 refine ag (ap (check_slot tc_kind tc_split typ (tc_args _ _ _) ?_))
 refine aq (qM (Code.quiet_builtin _ (by decide+kernel)) (by show (!(Builtin.Bytes.decodersThatHold.contains "type.__call__"))=true;decide+kernel) (dI ?_))
 show aG _ _ (match entryFor table "type.__call__" with|some b=>b ⟨.ref C::aH, []⟩|none=>unsupported ((withoutEnding? "type.__call__" "#data").getD "type.__call__")) _ _ _
 rw [entry_typeCall]
 show aG _ _ (mroOf (.ref C)>>=_) _ _ _
 refine u0 hm ?_
 refine Qc (by rw [e4];decide) ?_
 refine u0 made ?_
 refine ag (aq ?_)
 refine ag (aD (ap (wpAny_call (new_K Y' hi (.inl lF) ?_))))
 have k:∀b o,h.get? b=some o->((h.push emptyDict).push (instObj C h.objs.size)).get? b=some o:=λb o e=>fL _ (fL _ e)
 have hx:((h.push emptyDict).push (instObj C h.objs.size)).get? (h.objs.size+1)=some (instObj C h.objs.size):=by heap_get
 have t1:Looks (model prog w) ((h.push emptyDict).push (instObj C h.objs.size)) (typeOf (.ref (h.objs.size+1))) (.ref C):=(Looks.ld hx).andThen .now
 have s1:=self.keeps k
 have i1:=hi.keeps k
 have b1:=(hb (.ref (h.objs.size+1))).keeps k
 have u1:Looks (model prog w) ((h.push emptyDict).push (instObj C h.objs.size)) (isInstance (.ref (h.objs.size+1)) (.ref C)) true:=t1.andThen s1
 have v1:Looks (model prog w) ((h.push emptyDict).push (instObj C h.objs.size)) (specialOf (.ref (h.objs.size+1)) "__init__") (some init):=t1.andThen i1
 refine u0 u1 ?_
 refine Qc (by simp) ?_
 refine ag (aD ?_)
 unfold callSpecial?
 refine u0 v1 ?_
 refine aD ?_
 refine u0 b1 ?_
 refine ag (jl (nU hq λr s' z=> ?_))
 rcases r with e|(v|_|_|_)<;>first|exact z|exact z.elim|skip
 obtain ⟨rfl,z⟩:=z
 exact aq (aq z)
end
section
variable {c:Cx}{d n k:Nat}{m:Str->Option Value}{ac:ao}{ah:dN}{H:HP}{s:Shared}{A:Around}{E:Value->Shared->Prop}
set_option tactic.hygienic true in
theorem OA (ok:c.Ok d){R:au}(RS:d5 c n R)(hA:lM c n (k+1) A)(hn:aV c m ac ah H s)(has:aI ac ah as rs)(h:bw av c m ac ah (lq c.P R cc as H) Q E):
  aG (model c.prog c.w) A (call (.ref (c.S.dD cc)) rs) Q E s:=by
 unfold lq at h
 split at h
 ·rename_i f hf
  refine RJ (ok.mM.init cc f hf) λb1 b2 b3 b4=> ?_
  unfold kW at b1
  simp only [Bool.and_eq_true,beq_iff_eq] at b1
  refine hn.gE λg T F N=> ?_
  refine jl ?_
  have X:=(ok.qn T).keeps F.keep
  have V2:typeIn c.K (.ref (c.S.oD f))=some (.type "function"):=by
   unfold isFn at b4
   exact beq_iff_eq.mp b4
  obtain ⟨hh,gg,dd,tt,os⟩:=s
  refine zr (makes_of X b1.2) (looks_findIn X b3) (λself=>bind_fn X self V2) rfl ?_
  have N' :=(N.push F emptyDict).push (F.push _) (instObj (c.S.dD cc) hh.objs.size)
  rw [Heap.size_push] at N'
  have F' :=(F.push emptyDict).push (instObj (c.S.dD cc) hh.objs.size)
  have lt:∀q∈ac,q.1<hh.objs.size:=hn.lt
  have jf:aV c m ((hh.objs.size+1,instObj (c.S.dD cc) hh.objs.size)::(hh.objs.size,dictOf [] 0)::ac) (ah++ [(hh.objs.size+1,hh.objs.size)]) (H++ [.inst cc []]) ⟨(hh.push emptyDict).push (instObj (c.S.dD cc) hh.objs.size),gg,dd,tt,os⟩:=
   ⟨⟨g,T,F',N'⟩,rF (rF hn.nd lt) (λq hq=>by
    rcases cH hq with rfl|hq
    ·exact Nat.lt_succ_self _
    ·exact Nat.lt_succ_of_lt (lt q hq)),hn.hr.JE lt (Nat.lt_succ_self _),λy a e=>let ⟨o,v,h1,h2⟩:=hn.cells y a e;⟨o,v, .tail _ (.tail _ h1),h2⟩,hn.sh⟩
  have X' :br [] ac ah ((hh.objs.size+1,instObj (c.S.dD cc) hh.objs.size)::(hh.objs.size,dictOf [] 0)::ac) (ah++ [(hh.objs.size+1,hh.objs.size)]):=⟨⟨_,rfl⟩,λu8 hp u8=> .tail _ (.tail _ hp),λu8 hp u8 u8=> .tail _ (.tail _ hp)⟩
  have self:av ((hh.objs.size+1,instObj (c.S.dD cc) hh.objs.size)::(hh.objs.size,dictOf [] 0)::ac) (ah++ [(hh.objs.size+1,hh.objs.size)]) (.ref H.length) (.ref (hh.objs.size+1)):=
   .ref (p:=(hh.objs.size+1,hh.objs.size)) (by rw [<-hn.hr.len,eG (bS _)];simp)
  refine nU (RS _ ((hA.make _ _ _).le (Nat.zero_le _)) f (.ref H.length::as) _ m _ _ _ _ (λv s' =>v= .none/\Q (.ref (hh.objs.size+1)) s') E jf (.cons self (has.ext X')) (bw.bind (bw.base X' h) λx H1 n1 l1 s1 rx cN X1 v1 h1=> ?_)) λr s' z=> ?_
  ·cases v1 with
   |none=>exact ⟨rfl,h1 _ _ _ _ cN br.refl (self.ext X1)⟩
   |_=>exact h1.elim
  ·rcases r with e|(v|_|_|_)
   ·exact z
   ·exact z.elim
   ·exact z.elim
   ·exact z.elim
   ·exact z
 ·exact h.elim
theorem Qk (X:c.K.In s.heap)(h:keepIn c.K f=true):∃k,(k=Keeper.frame∨k=Keeper.machine∨k=Keeper.boundFrame)/\Looks (model c.prog c.w) s.heap (keeperOf f) k:=keeps_K h _ X
theorem GO (b:Bi):∃k,(k=Keeper.frame∨k=Keeper.machine∨k=Keeper.boundFrame)/\Looks M h (keeperOf (fm b)) k:=
 ⟨.machine, .inr (.inl rfl),by cases b<;>exact Looks.of_pure rfl⟩
theorem hF (i:String):∃k,(k=Keeper.frame∨k=Keeper.machine∨k=Keeper.boundFrame)/\Looks M h (keeperOf (.builtin i)) k:=
 ⟨.machine, .inr (.inl rfl),Looks.of_pure rfl⟩
end
inductive Sx:List Expr->nG->Prop where
 |nil:Sx [] .nil
 |cons (x xs e es):Sx (x::xs) (.cons e es)
structure Sh (xs:List Expr)(es:nG):Prop where
 star:xs.all (λe=> !stop e)=true
 len:∀{P:PI} {R:au} {l:cR} {vs:List SV} {H H' :HP},dM P R es l H= .ok vs H'->vs.length=xs.length
 k:Sx xs es
theorem Sh.nil:Sh [] .nil:=⟨rfl,λe=>by cases e;rfl, .nil⟩
theorem AR {α β:Type}{o:dz α}{f:α->HP->dz β}{b:β}(h:o.bind f= .ok b H'){C:Prop}(k:∀a H,o= .ok a H->f a H= .ok b H'->C):C:=by
 cases o with
 |ok a H=>exact k a H rfl h
 |exc _ _=>cases h
 |bad=>cases h
theorem Sh.cons (h1:stop x=false)(h:Sh xs es):Sh (x::xs) (.cons e es):=
 ⟨by rw [List.all_cons,h1,h.star];rfl,λ{P R l vs H H'} q=>by
  refine AR (show (bj P R e l H).bind (λv H=>(dM P R es l H).bind λvs H=> .ok (v::vs) H)= .ok vs H' from q) λy H1 u8 q=>AR q λys H2 q2 q=> ?_
  cases q
  exact congrArg (·+1) (h.len q2), .cons ..⟩
section
variable {c:Cx}{d n k:Nat}{R:au}{v:CV}{env:Env}
structure SX (c:Cx)(d n k:Nat)(R:au)(A:Around):Prop where
 ok:c.Ok d
 RS:d5 c n R
 hA:lM c n (k+1) A
noncomputable abbrev lK (c:Cx)(n k:Nat)(R:au)(v:CV)(env:Env)(x:Expr)(e:SE):Prop:=
 ∀{A:Around} {l:cR} {m:Str->Option Value} {ac:ao} {ah:dN} {H:HP} {s:Shared} {Q:Value->Shared->Prop} {E:Value->Shared->Prop},lM c n (k+1) A->gT c v env l m ac ah->aV c m ac ah H s->
  bw av c m ac ah (bj c.P R e l H) Q E->aG (model c.prog c.w) A (eval x env) Q E s
noncomputable abbrev ul (c:Cx)(n k:Nat)(R:au)(v:CV)(env:Env)(xs:List Expr)(es:nG):Prop:=
 ∀{A:Around} {l:cR} {m:Str->Option Value} {ac:ao} {ah:dN} {H:HP} {s:Shared} {pos:Pos} {Q:List Value->Shared->Prop} {E:Value->Shared->Prop},lM c n (k+1) A->gT c v env l m ac ah->aV c m ac ah H s->
  bw aI c m ac ah (dM c.P R es l H) Q E->aG (model c.prog c.w) A (spliced (backTo pos (starEach xs env))) Q E s
noncomputable abbrev HU (c:Cx)(n k:Nat)(R:au)(v:CV)(env:Env)(x:Expr)(e:SE):Prop:=
 ∀{A:Around} {l:cR} {m:Str->Option Value} {ac:ao} {ah:dN} {H:HP} {s:Shared} {Q:Bool->Shared->Prop} {E:Value->Shared->Prop},lM c n (k+1) A->gT c v env l m ac ah->aV c m ac ah H s->
  bw yu c m ac ah (gK c.P R e l H) Q E->aG (model c.prog c.w) A (isTrue x env (eval x env)) Q E s
theorem zM (hc:Sh xs es)(ih:ul c n k R v env xs es)
  (hA:lM c n (k+1) A) (he:gT c v env l m ac ah) (hn:aV c m ac ah H s)
  (u5:∀(Q:Value->Shared->Prop),Q fv s->wpAny (model c.prog c.w) A (eval (.Name x p) env) Q E s)
  (OZ:∀n1 l1 H1 s1 vs rs,aV c m n1 l1 H1 s1->aI n1 l1 vs rs->bw av c m n1 l1 (f vs H1) Q E->
   (∃k,(k=Keeper.frame∨k=Keeper.machine∨k=Keeper.boundFrame)/\Looks (model c.prog c.w) s1.heap (keeperOf fv) k)/\aG (model c.prog c.w) A (call fv rs) Q E s1)
  (h:bw av c m ac ah ((dM c.P R es l H).bind f) Q E):aG (model c.prog c.w) A (eval (.Call (.Name x p) xs [] pos) env) Q E s:=by
 refine uX (ap (u5 _ ?_))
 refine pW (gy xs pos hc.star).1 (ih hA he hn (bw.bind h λvs H1 n1 l1 s1 rs cN X1 v1 h1=>OZ _ _ _ _ _ _ cN v1 h1))
theorem rU (ok:c.Ok d)(h:keepIn c.K fv=true):∀n1 l1 H1 s1,aV c m n1 l1 H1 s1->∃k,(k=Keeper.frame∨k=Keeper.machine∨k=Keeper.boundFrame)/\Looks (model c.prog c.w) s1.heap (keeperOf fv) k:=
 λn1 l1 H1 s1 hn=>by
  refine hn.gE λg T F N=> ?_
  exact keeps_K h _ ((ok.qn T).keeps F.keep)
set_option tactic.hygienic true in
theorem LH (ok:c.Ok d)(RS:d5 c n R)(h1:jM o' =true)(h2:xs.length<30)(h3:(apos.endLine==pos.line)=true)(hc:Sh xs es)
  (io:lK c n k R v env o' o) (ih:ul c n k R v env xs es)
  (hA:lM c n (k+1) A) (he:gT c v env l m ac ah) (hn:aV c m ac ah H s)
  (h:bw av c m ac ah ((bj c.P R o l H).bind λv H=>(fj (d7 c.P v mn H) H).bind λk H=>(dM c.P R es l H).bind λvs H=>dl R k v vs H) Q E):
  aG (model c.prog c.w) A (eval (.Call (.Attribute o' (c.S.attr mn) apos) xs [] pos) env) Q E s:=by
 refine Qp h1 hc.star h2 h3 (io hA he hn (bw.bind h λov H1 n1 l1 s1 ro cN X1 v1 h1 pl=> ?_))
 cases q:d7 c.P ov mn H1 with
 |none=>rw [q] at h1;exact h1.elim
 |some mk=>
  rw [q] at h1
  refine ap (BM ok cN v1 q ?_)
  refine pW (gy xs pos hc.star).1 (ih hA (he.ext X1) cN (bw.bind (show bw av c m n1 l1 ((dM c.P R es l H1).bind λvs H=>dl R mk ov vs H) Q E from h1) λvs H2 n2 l2 s2 rs fI X2 v2 h2=> ?_))
  have vo:=v1.ext X2
  cases mk with
  |fn f=>
   refine ⟨?_,jl (RS A (hA.le (Nat.zero_le _)) f (ov::vs) _ m _ _ _ _ Q E fI (.cons vo v2) h2)⟩
   have:isFn c.K (.ref (c.S.oD f))=true/\keepIn c.K (.ref (c.S.oD f))=true:=by
    unfold d7 at q
    split at q
    ·split at q
     ·split at q
      ·rename_i g1 g2
       cases q
       have z:=(ok.mM.mD _ _ _ g1).2
       unfold rO at z
       simp only [Bool.and_eq_true] at z
       exact ⟨z.1.2,z.2⟩
      ·exact mZ q
     all_goals (try (cases q;done))
     all_goals (repeat' split at q)
     all_goals (cases q)
    ·exact mZ q
   exact rU ok this.2 _ _ _ _ fI
  |nf=>exact ⟨hF _,pr ok hA.guards fI (λf e=>by cases e) vo v2 h2⟩
  |pz=>exact ⟨hF _,pr ok hA.guards fI (λf e=>by cases e) vo v2 h2⟩
  |oV=>exact ⟨hF _,pr ok hA.guards fI (λf e=>by cases e) vo v2 h2⟩
  |iW=>exact ⟨hF _,pr ok hA.guards fI (λf e=>by cases e) vo v2 h2⟩
theorem ot (ok:c.Ok d)(RS:d5 c n R)(hg:eg v x=true)(hc:Sh xs es)(ih:ul c n k R v env xs es)
  (hA:lM c n (k+1) A) (he:gT c v env l m ac ah) (hn:aV c m ac ah H s):
  (∀f,c.S.glob.lookup x=some (.fn f)->bw av c m ac ah ((dM c.P R es l H).bind λvs H=>R f vs H) Q E->aG (model c.prog c.w) A (eval (.Call (.Name x p) xs [] pos) env) Q E s)/\
  (∀f,c.S.glob.lookup x=some (.cls f)->bw av c m ac ah ((dM c.P R es l H).bind λvs H=>lq c.P R f vs H) Q E->aG (model c.prog c.w) A (eval (.Call (.Name x p) xs [] pos) env) Q E s)/\
  (∀f,c.S.glob.lookup x=some (.bi f)->bw av c m ac ah ((dM c.P R es l H).bind λvs H=>bG f vs H) Q E->aG (model c.prog c.w) A (eval (.Call (.Name x p) xs [] pos) env) Q E s):=by
 refine ⟨λf hl h=> ?_,λf hl h=> ?_,λf hl h=> ?_⟩
 ·obtain ⟨a,b⟩:=ok.mM.R9 _ _ hl
  exact zM hc ih hA he hn (λQ hq=>he.Ng _ _ hg a _ _ _ _ _ _ _ _ hn hq) (λn1 l1 H1 s1 vs rs cN v1 h1=>⟨rU ok b _ _ _ _ cN,jl (RS A (hA.le (Nat.zero_le _)) f vs _ m _ _ _ _ Q E cN v1 h1)⟩) h
 ·have a:=ok.mM.EP _ _ hl
  refine zM hc ih hA he hn (λQ hq=>he.Ng _ _ hg a _ _ _ _ _ _ _ _ hn hq) (λn1 l1 H1 s1 vs rs cN v1 h1=>⟨?_,OA ok RS hA cN v1 h1⟩) h
  cases q:c.P.init f with
  |none=>unfold lq at h1;rw [q] at h1;exact h1.elim
  |some i=>exact rU ok (ok.mM.init f i q).2.1 _ _ _ _ cN
 ·refine rm (ok.mM.Vv _ _ hl) λa b e=> ?_
  exact zM hc ih hA he hn (λQ hq=>he.VE _ _ hg a b e _ _ _ _ _ _ _ _ hn hq) (λn1 l1 H1 s1 vs rs cN v1 h1=>⟨GO f,MV ok hA cN v1 h1⟩) h
set_option tactic.hygienic true in
theorem Fm (ok:c.Ok d)(h:gq v x i=true):∀{pos},lK c n k R v env (.Name x pos) (.loc i):=by
 intro pos A l m ac ah H s Q E hA he hn h'
 change bw av c m ac ah (match l[i]? with|some (some v)=> .ok v H|_=> .bad) Q E at h'
 split at h'
 ·rename_i val q
  refine aZ (he.loc x i val h q ac ah br.refl) λrv hv hr=> ?_
  exact ap (hr H s A pos Q E hn (h' _ _ _ _ hn br.refl hv))
 ·exact h'.elim
theorem AQ (hp:mL x=true)(ih:lK c n k R v env x e)
  (hA:lM c n (k+1) A) (he:gT c v env l m ac ah) (hn:aV c m ac ah H s) (h:bw yu c m ac ah ((bj c.P R e l H).bind λv H=>fj (eO v H) H) Q E):aG (model c.prog c.w) A (isTrue x env (eval x env)) Q E s:=
 HE hp (ih hA he hn (bw.bind h λv H1 n1 l1 s1 rv cN X1 v1 h1=>wC cN v1 h1))
end
structure su (c:Cx)(v:CV):Prop where
 sc:v.sc=c.cs
 inj:∀x y i,v.om.lookup x=some i->v.om.lookup y=some i->x=y
 kind:∀x i,v.om.lookup x=some i->c.cs.names.lookup x=some .local∨(c.cs.names.lookup x=some .cell/\∃a,c.cl.lookup x=some a)
 EN:(v.sc.names.all λp=>p.2 != .cell)=true->c.cl= []
structure bC (c:Cx)(v:CV)(l:cR)(m:Str->Option Value)(ac:ao)(ah:dN):Prop where
 loc:∀x i val,v.om.lookup x=some i->l[i]? =some (some val)->c.cs.names.lookup x=some .local->∃rv,m x=some rv/\av ac ah val rv
 Jf:∀x i val,v.om.lookup x=some i->l[i]? =some (some val)->c.cs.names.lookup x=some .cell->∃a o rv,c.cl.lookup x=some a/\(a,o)∈ac/\o.data= .cell (some rv)/\av ac ah val rv
noncomputable def Cx.X (c:Cx):List Addr:=c.cl.map (·.2)
theorem kg (h:o.data= .cell v):fA o=true:=by unfold fA;rw [h]
section
variable {c:Cx}{d n k:Nat}{m:Str->Option Value}{ac:ao}{ah:dN}{H:HP}{s:Shared}{v:CV}{l:cR}
theorem Cx.Ok.LK (ok:c.Ok d):c.env.scope.kind= .function:=ok.kind
theorem ez (ok:c.Ok d)(V:su c v)(h:bC c v l m ac ah):gT c v c.env l m ac ah:=by
 refine ⟨λx i val h1 h2 n' l' X=> ?_,λx rv h1 h2 n' l' H s A pos Q E hn q=> ?_,λx rv h1 h2 h3 h4 n' l' H s A pos Q E hn q=> ?_⟩
 ·unfold gq at h1
  simp only [Bool.and_eq_true,beq_iff_eq,bne_iff_ne,ne_eq] at h1
  obtain ⟨⟨e1,e2⟩,e3⟩:=h1
  have hd:(x==("__debug__":Str))=false:=eS e2
  rcases V.kind x i e1 with hk|⟨hk,_⟩
  ·refine aZ (h.loc x i val e1 h2 hk) λrv a1 a2=> ?_
   refine ⟨rv,a2.ext X,λH s A pos Q E hn q=> ?_⟩
   refine hn.gE λg T F N=> ?_
   exact nameX_L F a1 q ok.kind hk hd
  ·refine HW (h.Jf x i val e1 h2 hk) λa o rv a1 a2 a3 a4=> ?_
   refine ⟨rv,a4.ext X,λH s A pos Q E hn q=> ?_⟩
   refine hn.gE λg T F N=> ?_
   exact nameX_C N a1 (X.cell _ a2 (kg a3) (by simp)) a3 q ok.kind hk hd
 ·unfold eg at h1
  simp only [Bool.and_eq_true,beq_iff_eq,bne_iff_ne,ne_eq] at h1
  obtain ⟨e1,e2⟩:=h1
  have hd:(x==("__debug__":Str))=false:=eS e2
  rw [V.sc] at e1
  refine hn.gE λg T F N=> ?_
  exact nameX_K F (ok.qn T) (ok.C6 T) h2 q ok.kind e1 hd
 ·unfold eg at h1
  simp only [Bool.and_eq_true,beq_iff_eq,bne_iff_ne,ne_eq] at h1
  obtain ⟨e1,e2⟩:=h1
  have hd:(x==("__debug__":Str))=false:=eS e2
  rw [V.sc] at e1
  refine hn.gE λg T F N=> ?_
  exact nameX_B F (ok.qn T) (ok.C6 T) h2 h3 h4 q ok.kind e1 hd
theorem bC.ext (h:bC c v l m ac ah)(x:br [] ac ah n' l'):bC c v l m n' l' :=
 ⟨λy i val h1 h2 h3=>aZ (h.loc y i val h1 h2 h3) λrv a b=>⟨rv,a,b.ext x⟩,
  λy i val h1 h2 h3=>HW (h.Jf y i val h1 h2 h3) λa o rv a1 a2 a3 a4=>⟨a,o,rv,a1,x.cell _ a2 (kg a3) (by simp),a3,a4.ext x⟩⟩
theorem i7.KH {S:ls}(nd:(ac.map (·.1)).Nodup)(hm:(d,x)∈ac)(hc:fA x=true)(hs:dV x=false)(h:i7 prog w S ac ah p o):i7 prog w S (eN d x' ac) ah p o:=by
 have X:br [d] ac ah (eN d x' ac) ah:=br.rJ nd hm hs (by simp)
 have k:∀{a:Addr} {ob:Obj},(a,ob)∈ac->fA ob=false->(a,ob)∈eN d x' ac:=λ{a ob} hp JW=>dZ hp λe=>by
  have:ob=x:=fc (a:=d) nd (by rw [<-(show a=d from e)];exact hp) hm
  rw [this,hc] at JW;exact B6 JW
 cases h with
 |list iX hv hl=>exact .list (k iX rfl) (hv.ext X) hl
 |aM iX hz hd=>exact .aM (k iX (da (hd _ (intKind prog w))).2) hz hd
 |cg iX hz hd hp hl=>exact .cg (k iX (da hd).2) hz hd (hp.ext X) hl
 |dB iX hz hd hp hl=>exact .dB (k iX (da hd).2) hz hd (hp.ext X) hl
 |cj iX hb hl=>exact .cj (k iX rfl) hb hl
 |inst iX hd hf hl=>exact .inst (k iX rfl) (k hd rfl) (hf.ext X) hl
theorem fG.cell {S:ls}(h:fG prog w S ac ah H)(nd:(ac.map (·.1)).Nodup)(hm:(d,x)∈ac)(hc:fA x=true)(hs:dV x=false):fG prog w S (eN d x' ac) ah H:=
 ⟨h.len,λi o p e hp=>(h.obj i o p e hp).KH nd hm hc hs,h.apart,h.DJ,λp hp=>by
  obtain ⟨o,ho⟩:=h.there p hp
  by_cases e:p.1=d
  ·exact ⟨x',by rw [e];exact dE hm⟩
  ·exact ⟨o,dZ ho e⟩⟩
theorem aV.cell (hn:aV c m ac ah H s){g:Heap}{dd:Addr}{x x' :Obj}{h' :Heap}{t:Nat}(T:KtsTurn c.fs c.g₀ g)(F:Fr g c.L h' m)(N:News g c.L h' (eN dd x' ac))(hm:(dd,x)∈ac)(hc:fA x=true)(hs:dV x=false)
  (hx:(∃v,x.data= .cell v)->∃v,x'.data= .cell v):aV c m (eN dd x' ac) ah H {s with heap:=h',toks:=t}:=
 ⟨⟨g,T,F,N⟩,Br hn.nd,hn.hr.cell hn.nd hm hc hs,λy a e=>by
  refine uz (hn.cells y a e) λo v h1 h2=> ?_
  by_cases q:a=dd
  ·subst q
   have:o=x:=fc hn.nd h1 hm
   subst this
   obtain ⟨v',sF⟩:=hx ⟨v,h2⟩
   exact ⟨x',v',dE hm,sF⟩
  ·exact ⟨o,v,dZ h1 q,h2⟩,hn.sh⟩
theorem pK (V:su c v)(hx:v.om.lookup x=some i)(hy:v.om.lookup y=some j)(h:x≠y):i≠j:=λe=>h (V.inj x y i hx (e▸hy))
theorem KS (h:l[i]? =some w):(al l i u)[i]? =some (some u):=by
 unfold al
 rw [List.getElem?_set_self (gw h).1]
theorem kP (h:(al l i u)[i]? =some (some val)):val=u:=by
 unfold al at h
 by_cases q:i<l.length
 ·rw [List.getElem?_set_self q] at h;cases h;rfl
 ·rw [List.getElem?_eq_none (by rw [List.length_set];lia)] at h;exact mZ h
theorem jj (h:i≠j):(al l i u)[j]? =l[j]? :=by
 unfold al
 rw [List.getElem?_set_ne h]
theorem eL {α β:Type}[BEq α][LawfulBEq α]:∀{l:List (α×β)} {x:α} {y:β},l.lookup x=some y->(x,y)∈l
 | [],_,_,h=>by cases h
 |(a,b)::r,x,y,h=>by
  rw [List.lookup_cons] at h
  by_cases q:x=a
  ·subst q
   simp at h
   subst h;exact .head _
  ·have:(x==a)=false:=eS q
   rw [this] at h
   exact .tail _ (eL h)
theorem E4 {β:Type}{l:List (Str×β)}{a:β}(nd:(l.map (·.2)).Nodup)(h1:(x,a)∈l)(h2:(y,a)∈l):x=y:=by
 induction l with
 |nil=>exact jZ h1
 |cons p r ih=>
  have nd:=List.nodup_cons.mp nd
  rcases cH h1 with e1|h1<;>rcases cH h2 with e2|h2
  ·exact (Prod.mk.inj (e1.trans e2.symm)).1
  ·exact absurd (e1▸hZ (f:=(·.2)) h2) nd.1
  ·exact absurd (e2▸hZ (f:=(·.2)) h1) nd.1
  ·exact ih nd.2 h1 h2
theorem jE (ok:c.Ok d)(V:su c v)(hn:aV c m ac ah H s)(hl:bC c v l m ac ah)(hx:v.om.lookup x=some i)(hu:av ac ah u ru)
  (q:∀m' az s',aV c m' az ah H s'->br c.X ac ah az ah->bC c v (al l i u) m' az ah->Q () s'):wpAny (model c.prog c.w) A (bindName c.env x ru) Q E s:=by
 refine wpAny_bindName ?_
 refine hn.gE λg T F N=> ?_
 rcases V.kind x i hx with hk|⟨hk,a,ha⟩
 ·refine storeX_L F N (λh' F' N' =>q _ ac _ ⟨⟨g,T,F',N'⟩,hn.nd,hn.hr,hn.cells,hn.sh⟩ br.refl ⟨λy j val h1 h2 h3=> ?_,λy j val h1 h2 h3=> ?_⟩) ok.kind hk
  ·by_cases e:y=x
   ·subst e
    rw [hx] at h1;cases h1
    rw [kP h2]
    exact ⟨ru,if_pos rfl,hu⟩
   ·rw [jj (pK V hx h1 (Ne.symm e))] at h2
    refine aZ (hl.loc y j val h1 h2 h3) λrv a1 a2=> ?_
    exact ⟨rv,by rw [if_neg e];exact a1,a2⟩
  ·have e:y≠x:=λe=>by subst e;rw [hk] at h3;cases h3
   rw [jj (pK V hx h1 (Ne.symm e))] at h2
   exact hl.Jf y j val h1 h2 h3
 ·refine uz (hn.cells x a ha) λo v₀ ho hd=> ?_
  refine storeX_C F N ha (rP hn.nd ho) hd (λh' o' F' N' Cg=> ?_) ok.kind hk
  have hc:=kg hd
  have hs:dV o=false:=Dw hd
  have hX:br c.X ac ah (eN a o' ac) ah:=br.rJ hn.nd ho hs (List.mem_map.mpr ⟨_,eL ha,rfl⟩)
  refine q m _ {s with heap:=h' } (hn.cell (t:=s.toks) T F' N' ho hc hs (λu8=>⟨_,Cg⟩)) hX ⟨λy j val h1 h2 h3=> ?_,λy j val h1 h2 h3=> ?_⟩
  ·have e:y≠x:=λe=>by subst e;rw [hk] at h3;cases h3
   rw [jj (pK V hx h1 (Ne.symm e))] at h2
   refine aZ (hl.loc y j val h1 h2 h3) λrv a1 a2=> ?_
   exact ⟨rv,a1,a2.ext hX⟩
  ·by_cases e:y=x
   ·subst e
    rw [hx] at h1;cases h1
    rw [kP h2]
    exact ⟨a,o',ru,ha,dE ho,Cg,hu.ext hX⟩
   ·rw [jj (pK V hx h1 (Ne.symm e))] at h2
    refine HW (hl.Jf y j val h1 h2 h3) λb ob rv a1 a2 a3 a4=> ?_
    exact ⟨b,ob,rv,a1,dZ a2 λe' =>e (E4 ok.Rk (eL a1) (by rw [show b=a from e'];exact eL ha)),a3,a4.ext hX⟩
end
noncomputable def JK (c:Cx)(k:Nat)(ac:ao)(ev:Value)(s:Shared):Prop:=
 ∃e t vs g',ev= .ref e/\KtsTurn c.fs c.g₀ g' /\RaisedS c.base g' c.outer e (.ref (c.S.dD k)) t vs ac s.heap/\g'.UpToSlots s.heap/\(s.gens=c.gens/\s.drawn=c.drawn/\s.os=c.os)/\(c.S.HQ k=false->ec e s.heap)
noncomputable def f7 (c:Cx)(k:Nat)(ac:ao)(ev:Value)(s:Shared):Prop:=wpAny (model c.prog c.w) c.A (leaving c.env ev) (λu8 s' =>JK c k ac ev s') (λu8 u8=>False) s
structure LL (c:Cx)(ac:ao)(ah:dN)(H:HP):Prop where
 nd:(ac.map (·.1)).Nodup
 hr:fG c.prog c.w c.S ac ah H
noncomputable def bv (c:Cx)(v:CV)(ac:ao)(ah:dN)(o:cQ)(Q:Flow->Shared->Prop)(E:Value->Shared->Prop):Prop:=match o with
 | .next l H=>∀m' az bM s',aV c m' az bM H s'->br c.X ac ah az bM->bC c v l m' az bM->Q .next s'
 | .cont l H=>∀m' az bM s',aV c m' az bM H s'->br c.X ac ah az bM->bC c v l m' az bM->Q .cont s'
 | .ret x H=>∀m' az bM s' rx,aV c m' az bM H s'->br c.X ac ah az bM->av az bM x rx->Q (.ret rx) s'
 | .exc k l H=>∀m' az bM s' ev,CI c az bM H s'->br c.X ac ah az bM->bC c v l m' az bM->kG c m' k az ev s'->E ev s'
 | .jw k H=>∀az bM s' ev,LL c az bM H->br c.X ac ah az bM->f7 c k az ev s'->E ev s'
 | .bad=>False
section
variable {c:Cx}{d n k:Nat}{v:CV}{ac n' :ao}{ah l' :dN}{Q:Flow->Shared->Prop}{E:Value->Shared->Prop}
theorem bv.base (x:br c.X ac ah n' l')(h:bv c v ac ah o Q E):bv c v n' l' o Q E:=by
 cases o with
 |next l H=>exact λm' n2 l2 s' N X L=>h m' n2 l2 s' N (x.trans X) L
 |cont l H=>exact λm' n2 l2 s' N X L=>h m' n2 l2 s' N (x.trans X) L
 |ret y H=>exact λm' n2 l2 s' r N X L=>h m' n2 l2 s' r N (x.trans X) L
 |exc k l H=>exact λm' n2 l2 s' r N X L V=>h m' n2 l2 s' r N (x.trans X) L V
 |jw k H=>exact λn2 l2 s' r N X V=>h n2 l2 s' r N (x.trans X) V
 |bad=>exact h
theorem bv.mono (h:bv c v ac ah o Q E)(hq:∀f s,Q f s->Q' f s)(he:∀e s,E e s->E' e s):bv c v ac ah o Q' E' :=by
 cases o with
 |next l H=>exact λm' n2 l2 s' N X L=>hq _ _ (h m' n2 l2 s' N X L)
 |cont l H=>exact λm' n2 l2 s' N X L=>hq _ _ (h m' n2 l2 s' N X L)
 |ret y H=>exact λm' n2 l2 s' r N X L=>hq _ _ (h m' n2 l2 s' r N X L)
 |exc k l H=>exact λm' n2 l2 s' r N X L V=>he _ _ (h m' n2 l2 s' r N X L V)
 |jw k H=>exact λn2 l2 s' r N X V=>he _ _ (h n2 l2 s' r N X V)
 |bad=>exact h
theorem bv.then {α β:Type}{rel:ao->dN->α->β->Prop}{o:dz α}{f:α->HP->cQ}{Q1:β->Shared->Prop}(hl:bC c v l m ac ah)(h:bv c v ac ah (o.then l f) Q E)
  (k:∀x H1 n1 l1 s1 rx,aV c m n1 l1 H1 s1->br [] ac ah n1 l1->bC c v l m n1 l1->rel n1 l1 x rx->bv c v n1 l1 (f x H1) Q E->Q1 rx s1):bw rel c m ac ah o Q1 E:=by
 cases o with
 |ok a H=>exact λn2 l2 s' r N X V=>k _ _ _ _ _ _ N X (hl.ext X) V (bv.base X.wide h)
 |exc k' H=>exact λn2 l2 s' ev N X V=>h m n2 l2 s' ev N X.wide (hl.ext X) V
 |bad=>exact h
end
section
variable {M:Model}{A:Around}{E:Value->Shared->Prop}{s:Shared}{env:Env}
theorem Qa (h:Q .next s):aG M A (exec (.Pass pos) env) Q E s:=λu8 u8 u8 u8=>h
theorem Pg (h:Q .cont s):aG M A (exec (.Continue pos) env) Q E s:=λu8 u8 u8 u8=>h
theorem P9 (hi:interactive env=false)(hs:swapsWith e none pos.line env=pure false)(h:aG M A (eval e env) (λv s' =>(∀a,v≠ .ref a)/\Q .next s') E s):aG M A (exec (.Expr e pos) env) Q E s:=by
 rw [arm_exec_Expr,hi,hs]
 refine ag (aB ?_)
 show aG M A (do let b<-(pure false:Sem Bool);if b then (do evalThenUse e env λu8=>point;pure .next) else do dropValue e pos (<-eval e env)) Q E s
 refine ag (aq ?_)
 show aG M A (do dropValue e pos (<-eval e env)) Q E s
 refine ag (aA h λv s₁ h₁=> ?_)
 rw [dropValue_plain h₁.1]
 exact aq h₁.2
theorem AZ (hw:swapsWith e (some t) pos.line env=pure false)(hs:swappedStores [t] e env=pure none)(ht:assignEach [t] env= [(false,assign t env)])
  (h:aG M A (eval e env) (λv s₁=>aG M A (assign t env v) (λu8 s₂=>Q .next s₂) E s₁) E s):aG M A (exec (.Assign [t] e pos) env) Q E s:=by
 rw [arm_exec_Assign]
 refine ag (aB ?_)
 show aG M A (do let b<-swapsWith e (some t) pos.line env;_) Q E s
 rw [hw]
 refine ag (aq ?_)
 show aG M A (do let v<-eval e env;assignStores env v (<-swappedStores [t] e env) ((assignEach [t] env).map (·.2))) Q E s
 refine ag (aA h λv s₁ h₁=> ?_)
 rw [hs]
 refine ag (aq ?_)
 rw [ht]
 show aG M A (do assignAll v [assign t env];pure .next) Q E s₁
 exact ag (aA h₁ λu8 s₂ h₂=>aq h₂)
theorem Js (h:aG M A (eval e env) (λv s' =>Q (.ret v) s') E s):aG M A (exec (.Return (some e) pos) env) Q E s:=by
 rw [arm_exec_Return]
 refine ag (aB ?_)
 exact ag (aA h λv s₁ h₁=>aq h₁)
theorem W3 (h:aG M A (isTrue t env (eval t env)) (λc s₁=>if c=true then aG M A (execs a env) Q E s₁ else aG M A (execs b env) Q E s₁) E s):aG M A (exec (.If t a b pos) env) Q E s:=by
 rw [arm_exec_If]
 refine ag (aB ?_)
 exact ag (aA h λc s₁ h₁=>by cases c<;>exact h₁)
theorem Kd (h:Q .next s):aG M A (execs [] env) Q E s:=aq h
theorem KG {st:Stmt}(h:aG M A (exec st env) (λf s₁=>match f with| .next=>aG M A (execs r env) Q E s₁|f=>Q f s₁) E s):aG M A (execs (st::r) env) Q E s:=by
 rw [arm_execs_cons]
 refine ag (aA h λf s₁ h₁=> ?_)
 cases f<;>first|exact h₁|exact aq h₁
theorem KQ (h:aG M A (bindName env x v) Q E s):aG M A (assign (.Name x p) env v) Q E s:=ag (aB h)
theorem Ot (h:aG M A (eval o env) (λov s₁=>aG M A (setAttr ov a v) Q E s₁) E s):aG M A (assign (.Attribute o a p) env v) Q E s:=by
 show aG M A (do let ov<-holding [v] (eval o env);standAt p.atName;holding [v,ov] (setAttr ov a v);release [v,ov] []) Q E s
 exact ag (aD (aA h λov s₁ h₁=>ag (aB (ag (aD (aA h₁ λu8 s₂ h₂=>jV h₂))))))
theorem Pd (h:aG M A (eval o env) (λov s₁=>aG M A (eval i env) (λiv s₂=>aG M A (setItem ov iv v) Q E s₂) E s₁) E s):aG M A (assign (.Subscript o i p) env v) Q E s:=by
 rw [arm_assign_Subscript]
 exact ag (aD (aA h λov s₁ h₁=>ag (aD (aA h₁ λiv s₂ h₂=>ag (aB (ag (aD (aA h₂ λu8 s₃ h₃=>jV h₃))))))))
theorem Ty (h:aG M A (eval o env) (λov s₁=>aG M A (eval i env) (λiv s₂=>aG M A (delItem ov iv) (λu8 s₃=>Q .next s₃) E s₂) E s₁) E s):aG M A (exec (.Delete [.Subscript o i p] pos) env) Q E s:=by
 rw [arm_exec_Delete]
 refine ag (aB ?_)
 rw [arm_deleteEach_cons,arm_delete_Subscript]
 refine ag (ag (ag (aA h λov s₁ h₁=>ag (aD (aA h₁ λiv s₂ h₂=>ag (aB (ag (aD (aA h₂ λu8 s₃ h₃=>jV ?_)))))))))
 rw [arm_deleteEach_nil]
 exact aq (aq h₃)
theorem Qe
  (h:aG M A (loadName env x) (λcx s₁=>aG M A (eval e env) (λv s₂=>aG M A (inplaceOp op cx v) (λr s₃=>aG M A (bindName env x r) (λu8 s₄=>Q .next s₄) E s₃) E s₂) E s₁) E s):
  aG M A (exec (.AugAssign (.Name x p) op e pos) env) Q E s:=by
 rw [arm_exec_AugAssign]
 exact ag (aB (ag (aA h λcx s₁ h₁=>ag (aD (aA h₁ λv s₂ h₂=>ag (aB (ag (iz (aA h₂ λr s₃ h₃=>ag (aB (ag (aA h₃ λu8 s₄ h₄=>aq h₄))))))))))))
theorem PY
  (h:aG M A (eval o env) (λov s₁=>aG M A (getAttr ov a true) (λcx s₂=>aG M A (eval e env) (λv s₃=>aG M A (inplaceOp op cx v) (λr s₄=>aG M A (setAttr ov a r) (λu8 s₅=>Q .next s₅) E s₄) E s₃) E s₂) E s₁) E s):
  aG M A (exec (.AugAssign (.Attribute o a p) op e pos) env) Q E s:=by
 rw [arm_exec_AugAssign_2]
 refine ag (aB (ag (aA h λov s₁ h₁=>ag (aD ?_))))
 refine ag (aB (ag (aA h₁ λcx s₂ h₂=>ag (aD (aA h₂ λv s₃ h₃=>ag (aB (iz (aA h₃ λr s₄ h₄=> ?_))))))))
 exact ag (aB (ag (aD (aA h₄ λu8 s₅ h₅=>ag (jV (aq h₅))))))
end
inductive jo (ac:ao)(ah:dN):SV->Nat->Addr->Prop
 |list {r:Nat} {p:Nat×Nat} {o:Obj} {k:Nat} {it:Addr}:ah[r]? =some p->(it,o)∈ac->o.cls= .type "list_iterator"->o.data= .fields #[.ref p.1, .int k 0]->jo ac ah (.ref r) k it
 |range {lo hi:Int} {o:Obj} {k:Nat} {it:Addr} {x y:Int}:(it,o)∈ac->o={cls:= .type "range_iterator",dict:=none,data:= .fields #[rawInt x,rawInt y,rawInt 1],slots:= #[]}->x=lo+k->y=hi - lo - k->jo ac ah (.range lo hi) k it
 |bytes {b:By} {dm:Array UInt8} {t:Tok} {o:Obj} {k:Nat} {it:Addr}:KBw.bInts dm=b->(it,o)∈ac->o.cls= .type "bytes_iterator"->o.data= .fields #[.bytes dm t, .int k 0]->jo ac ah (.bytes b) k it
theorem jo.obj (h:jo ac ah v k it):∃o,(it,o)∈ac/\fA o=true/\dV o=false/\∀x,o.data≠ .cell x:=by
 cases h with
 |list _ hm hc hd=>exact ⟨_,hm,by unfold fA;rw [hd,hc];rfl,by unfold dV;rw [hd,hc];rfl,λx e=>by rw [hd] at e;cases e⟩
 |range hm ho _ _=>subst ho;exact ⟨_,hm,rfl,rfl,λx e=>by cases e⟩
 |bytes _ hm hc hd=>exact ⟨_,hm,by unfold fA;rw [hd,hc];rfl,by unfold dV;rw [hd,hc];rfl,λx e=>by rw [hd] at e;cases e⟩
theorem jo.ext {X:List Addr}(x:br X ac ah n' l')(hX:it∉X)(h:jo ac ah v k it):jo n' l' v k it:=by
 have hc:=h.obj
 cases h with
 |list hp hm hc hd=>exact .list (x.at hp) (x.cell _ hm (by unfold fA;rw [hd,hc];rfl) hX) hc hd
 |range hm ho e1 e2=>subst ho;exact .range (x.cell _ hm rfl hX) rfl e1 e2
 |bytes hb hm hc hd=>exact .bytes hb (x.cell _ hm (by unfold fA;rw [hd,hc];rfl) hX) hc hd
theorem br.mono {X Y:List Addr}(x:br X n1 l1 n2 l2)(h:∀a∈X,a∈Y):br Y n1 l1 n2 l2:=⟨x.ah,x.sP,λp h1 h2 h3=>x.cell p h1 h2 λq=>h3 (h _ q)⟩
noncomputable def eE (it:Addr)(ac:ao):ao:=ac.filter λp=>decide (p.1≠it)
theorem bz:p∈eE it ac↔p∈ac/\p.1≠it:=by unfold eE;rw [List.mem_filter,decide_eq_true_iff]
section
variable {c:Cx}{d n k:Nat}{m:Str->Option Value}{ac:ao}{ah:dN}{H:HP}{s:Shared}{v:CV}{l:cR}
theorem i7.drop {S:ls}(nd:(ac.map (·.1)).Nodup)(hm:(d,x)∈ac)(hc:fA x=true)(hs:dV x=false)(h:i7 prog w S ac ah p o):i7 prog w S (eE d ac) ah p o:=by
 have ne:∀{a:Addr} {ob:Obj},(a,ob)∈ac->ob≠x->a≠d:=λ{a ob} hp lF e=>lF (fc (a:=d) nd (by rw [<-e];exact hp) hm)
 have X:br [d] ac ah (eE d ac) ah:=⟨⟨[],(ch _).symm⟩,λp hp q=>bz.mpr ⟨hp,ne hp λe=>by rw [e,hs] at q;exact xh q⟩,λp hp q z=>bz.mpr ⟨hp,λe=>z (by rw [e];simp)⟩⟩
 have k:∀{a:Addr} {ob:Obj},(a,ob)∈ac->fA ob=false->(a,ob)∈eE d ac:=λ{a ob} hp JW=>bz.mpr ⟨hp,ne hp λe=>by rw [e,hc] at JW;exact B6 JW⟩
 cases h with
 |list iX hv hl=>exact .list (k iX rfl) (hv.ext X) hl
 |aM iX hz hd=>exact .aM (k iX (da (hd _ (intKind prog w))).2) hz hd
 |cg iX hz hd hp hl=>exact .cg (k iX (da hd).2) hz hd (hp.ext X) hl
 |dB iX hz hd hp hl=>exact .dB (k iX (da hd).2) hz hd (hp.ext X) hl
 |cj iX hb hl=>exact .cj (k iX rfl) hb hl
 |inst iX hd hf hl=>exact .inst (k iX rfl) (k hd rfl) (hf.ext X) hl
theorem JZ {S:ls}(nd:(ac.map (·.1)).Nodup)(h:i7 prog w S ac ah p o){ob:Obj}(hm:(a,ob)∈ac)(hc:fA ob=true):p.1≠a:=λe=>by
 subst e
 cases h with
 |list iX _ _=>rw [<-fc nd iX hm] at hc;cases hc
 |aM iX _ hd=>rw [<-fc nd iX hm,(da (hd _ (intKind prog w))).2] at hc;exact xh hc
 |cg iX _ hd _ _=>rw [<-fc nd iX hm,(da hd).2] at hc;exact xh hc
 |dB iX _ hd _ _=>rw [<-fc nd iX hm,(da hd).2] at hc;exact xh hc
 |cj iX _ _=>rw [<-fc nd iX hm] at hc;cases hc
 |inst iX _ _ _=>rw [<-fc nd iX hm] at hc;cases hc
theorem aV.drop (hn:aV c m ac ah H s){t:Nat}(hm:(it,x)∈ac)(hc:fA x=true)(hs:dV x=false)(hd:∀v,x.data≠ .cell v)(he:Heap.ExtBut it s.heap h'):aV c m (eE it ac) ah H {s with heap:=h',toks:=t}:=by
 obtain ⟨⟨g,T,F,N⟩,nd,hr,ce,sh⟩:=hn
 have hi:=N _ hm
 refine ⟨⟨g,T,⟨F.ns.extBut he (Ne.symm hi.2.1),λb o e=>he b o (λq=>by rw [q,hi.2.2] at e;exact mZ e) (F.keep b o e),F.above⟩,λp hp=> ?_⟩, ?_,⟨hr.len,λi o p e hp=>(hr.obj i o p e hp).drop nd hm hc hs,hr.apart,hr.DJ,λp hp=> ?_⟩,λy a e=> ?_,sh⟩
 ·obtain ⟨h1,h2⟩:=bz.mp hp
  exact ⟨he _ _ h2 (N p h1).1,(N p h1).2⟩
 ·exact nd.sublist (List.Sublist.map _ (List.filter_sublist))
 ·obtain ⟨i,Nw⟩:=List.getElem?_of_mem hp
  have hl:i<H.length:=by rw [<-hr.len];exact (gw Nw).1
  obtain ⟨o,ho⟩:=hr.there p hp
  exact ⟨o,bz.mpr ⟨ho,JZ nd (hr.obj i _ p (eW hl) Nw) hm hc⟩⟩
 ·refine uz (ce y a e) λo v h1 h2=> ?_
  refine ⟨o,v,bz.mpr ⟨h1,λq=> ?_⟩,h2⟩
  have:o=x:=fc (a:=it) nd (by rw [<-(show a=it from q)];exact h1) hm
  exact hd v (this▸h2)
theorem AJ (ok:c.Ok d)(hn:aV c m ac ah H s):∀a∈c.X,a<s.heap.objs.size:=λa ha=>by
 refine aZ (gD ha) λp hp e=> ?_
 obtain ⟨x,b⟩:=p
 obtain rfl:b=a:=e
 refine uz (hn.cells x b (lookup_of_mem_nodup ok.XV hp)) λo v h1 u8=> ?_
 exact hn.lt _ h1
theorem zI (hn:aV c m ac ah H s)(hf:o.isFreed=false):aV c m ((s.heap.objs.size,o)::ac) ah H {s with heap:=s.heap.push o}:=by
 refine hn.gE λg T F N=> ?_
 exact hn.more (t:=s.toks) T (F.push _) (N.push F o hf) hn.lt
end
section
variable {c:Cx}{d n k:Nat}{m:Str->Option Value}{ac:ao}{ah:dN}{H:HP}{s:Shared}{v:CV}{l:cR}{A:Around}{E:Value->Shared->Prop}
set_option tactic.hygienic true in
theorem A6 (hn:aV c m ac ah H s)(hx:av ac ah x rx)(hs:cu x 0 H≠none)
  (q:∀o s',aV c m ((s.heap.objs.size,o)::ac) ah H s'->jo ((s.heap.objs.size,o)::ac) ah x 0 s.heap.objs.size->Q (.ref s.heap.objs.size) s'):wpAny (model c.prog c.w) A (pyIter rx) Q E s:=by
 refine hn.gE λg T F N=> ?_
 cases hx with
 |range hm h0 h1 h2=>
  rename_i lo hi a t u w
  have ka:hi<=4096:=h2
  refine wpAny_pyIter_range (hn.addr hm) (jN h0 h1 ka) ?_
  have hz:Builtin.Range.rangeSize lo hi 1=hi - lo:=by rw [rangeSize_nat];lia
  rw [hz]
  exact q _ _ (zI hn rfl) (.range (.head _) rfl (by simp) (by simp))
 |bytes dm t h1 h2=>exact KBw.pyIter_bytes (q _ _ (zI hn rfl) (.bytes h1 (.head _) rfl rfl))
 |ref hp=>
  rename_i i p
  have hO:∃vs,H[i]? =some (.list vs):=by
   unfold cu at hs
   dsimp only at hs
   split at hs
   ·exact ⟨_,by assumption⟩
   ·exact absurd rfl hs
  obtain ⟨vs,hO⟩:=hO
  cases hn.hr.obj i _ p hO hp with
  |list hm hv hl=>exact wpAny_pyIter_list ⟨_,hn.addr hm,rfl,_,rfl⟩ (q _ _ (zI hn rfl) (.list hp (.head _) rfl rfl))
 |_=>exact absurd rfl hs
theorem vW (hn:aV c m ac ah H s){t:Nat}(hm:(it,o)∈ac)(hc:fA o=true)(hs:dV o=false)(hd:∀x,o.data≠ .cell x)(he:Heap.SameBut it s.heap h')(ho:h'.get? it=some o'):
  aV c m (eN it o' ac) ah H {s with heap:=h',toks:=t}/\br [it] ac ah (eN it o' ac) ah/\(it,o')∈eN it o' ac:=by
 refine hn.gE λg T F N=> ?_
 exact ⟨hn.cell T (F.change he (N _ hm).2.1 (N _ hm).2.2) (pL hn.nd N hm he ho) hm hc hs (λ⟨v,e⟩=>absurd e (hd v)),br.rJ hn.nd hm hs (by simp),dE hm⟩
noncomputable def XQ (c:Cx)(m:Str->Option Value)(ac:ao)(ah:dN)(H:HP)(x:SV)(j:Nat)(it:Addr)(h:Heap)(Q:Option Value->Shared->Prop):Option SV->Prop
 |none=>∀s',aV c m (eE it ac) ah H s'->Heap.ExtBut it h s'.heap->Q none s'
 |some y=>∀az s' ry,aV c m az ah H s'->Heap.ExtBut it h s'.heap->az.map (·.1)=ac.map (·.1)->br [it] ac ah az ah->jo az ah x (j+1) it->av az ah y ry->Q (some ry) s'
set_option tactic.hygienic true in
theorem wP (hh:A.handled=none)(hn:aV c m ac ah H s)(hi:jo ac ah x j it)(e:cu x j H=some r)
  (q:XQ c m ac ah H x j it s.heap Q r):wpAny (model c.prog c.w) A (pyNext (.ref it)) Q E s:=by
 refine J6 hi.obj λo HH K2 KZ MO=> ?_
 have fin:∀h',Heap.ExtBut it s.heap h'->aV c m (eE it ac) ah H {s with heap:=h' }:=λh' he=>hn.drop (t:=s.toks) HH K2 KZ MO he
 cases hi with
 |list hp hm hc hd=>
  rename_i rr p o1
  unfold cu at e
  dsimp only at e
  split at e
  ·rename_i vs hO
   cases e
   cases hn.hr.obj rr _ p hO hp with
   |list iX hv hl=>
    rename_i aC nn
    have hL:s.heap.IsList p.1 aC.toArray:=⟨_,hn.addr iX,rfl,_,rfl⟩
    have hI:s.heap.IsListIter it p.1 j:=⟨_,hn.addr hm,hc,hd⟩
    cases qq:vs[j]? with
    |none=>
     rw [qq] at q
     have hle:=hv.length
     refine wpAny_pyNext_list_end hh hI hL (by rw [List.getElem?_toArray];exact List.getElem?_eq_none (by have:=List.getElem?_eq_none_iff.mp qq;lia)) λh' he=>q _ (fin h' he) he
    |some y=>
     rw [qq] at q
     refine aZ (hv.at qq) λry h1 h2=> ?_
     refine wpAny_pyNext_list_item hI hL (by rw [List.getElem?_toArray];exact h1) λh' I1 he=> ?_
     refine mF I1 λo' sK Sm Cg=> ?_;clear I1
     refine rm (vW (t:=s.toks) hn HH K2 KZ MO he sK) λa1 a2 a3=> ?_
     exact q _ _ ry a1 he.extBut (mU _ _ _) a2 (.list hp a3 Sm Cg) (h2.ext a2)
  ·exact mZ e
 |range hm ho e1 e2=>
  rename_i lo hi o1 x1 y1
  subst ho
  have hI:IsRangeIter s.heap it x1 y1 1:=hn.addr hm
  unfold cu at e
  dsimp only at e
  split at e
  ·rename_i lN
   cases e
   refine wpAny_pyNext_range_item hI (by lia) λh' I1 he=> ?_
   refine rm (vW (t:=s.toks+1) hn HH K2 KZ MO he I1) λa1 a2 a3=> ?_
   subst e1
   exact q _ _ (.int (lo+j) s.toks) a1 he.extBut (mU _ _ _) a2 (.range a3 rfl (by lia) (by lia)) (.int _ _)
  ·rename_i lN
   cases e
   exact wpAny_pyNext_range_end hh hI (by lia) λh' he=>q _ (fin h' he) he
 |bytes hb hm hc hd=>
  rename_i b dm t o1
  have hI:KBw.IsBytesIter s.heap it dm t j:=⟨_,hn.addr hm,hc,hd⟩
  unfold cu at e
  dsimp only at e
  cases e
  subst hb
  cases qq:dm[j]? with
  |none=>
   have:(KBw.bInts dm)[j]? =none:=List.getElem?_eq_none (by rw [KBw.ints_length];exact Array.getElem?_eq_none_iff.mp qq)
   rw [this] at q
   exact KBw.next_end hh hI qq λh' he=>q _ (fin h' he) he
  |some cc=>
   rw [KBw.ints_get qq] at q
   refine KBw.next_item hI qq λh' I1 he=> ?_
   refine mF I1 λo' sK Sm Cg=> ?_;clear I1
   refine rm (vW (t:=s.toks+1) hn HH K2 KZ MO he sK) λa1 a2 a3=> ?_
   exact q _ _ (.int cc.toNat s.toks) a1 he.extBut (mU _ _ _) a2 (.bytes rfl a3 Sm Cg) (.int _ _)
end
section
open PySem.Builtin PySem.Builtin.Str
noncomputable abbrev FS:=List Value×Writer×List Nat
noncomputable abbrev FA (X:Type):=Value->Str->Value->Bool->Option Str->Bool->X
noncomputable def gd {β:Type}(w:Writer)(R:Sem β):Sem β:=if tooLong w.total=true then (unsupported "str.__mod__:memory":Sem Unit)>>=λu8=>R else R
noncomputable def Uw (w:Writer)(more:List Value)(aH:List Nat)(q:List Nat×Option Value×Bool):Sem (ForInStep FS):=
 match percentField {type:=100} q.2.2 q.1 with
 |none=>pure (.yield (more,w.add ⟨q.1.toArray⟩ (if aH.isEmpty=true then q.2.1 else none),aH))
 |some laid=>pure (.yield (more,w.add ⟨laid.toArray⟩,aH))
noncomputable def Ug (i:Int):Sem (List Nat×Option Value×Bool):=
 mkInt ↑i.natAbs>>=λm=>call (.builtin "int.__repr__") [m]>>=λr=>asStr? r>>=λy=>
  «str.split».match_3 (λu8=>Sem (List Nat×Option Value×Bool)) y (λd=>pure d.cps.toList>>=λg=>pure (percentInt {type:=100} (decide (i<0)) g,none,true)) λu8=>unsupported "internal:str.__mod__">>=λg=>pure (percentInt {type:=100} (decide (i<0)) g,none,true)
noncomputable def sL (x:String):List Nat:=x.toList.map Char.toNat
noncomputable def FK:Str:= .ofString "no command is of kind %d"
noncomputable def FE:Str:= .ofString "entry %d does not follow %d"
noncomputable def PL (f:FA (Nat->FS->Sem (ForInStep FS)))(F:Str)(r l t:List Nat):Prop:=∀o args b x m i p w,gd w (pure (.yield (p,w.add ⟨l.toArray⟩ none,t)))=f o F args b x m i (p,w,r)
noncomputable def kk (f:FA (Nat->FS->Sem (ForInStep FS)))(fin:FA (FS->Sem Fin))(o:Value)(F:Str)(args:Value)(b:Bool)(x:Option Str)(m:Bool)(p:List Value):Sem Fin:=
 forIn [:F.length] (p,({}:Writer),F.cps.toList) (f o F args b x m)>>=fin o F args b x m
structure PF (f:FA (Nat->FS->Sem (ForInStep FS)))(fin:FA (FS->Sem Fin)):Prop where
 z:∀o F args b x m i p w,gd w (pure (.done (p,w, [])))=f o F args b x m i (p,w, [])
 e:∀o F args b x m w,w.finish "str.__mod__"=fin o F args b x m ([],w, [])
 i:∀o F args b x m i n u more w aH,gd w (holding [.int n u] (percentIntOf 100 (.int n u)>>=Ug)>>=Uw w more aH)=f o F args b x m i (.int n u::more,w,37::100::aH)
 a:PL f FK FK.cps.toList (sL "no command is of kind ") [37,100]
 b:PL f FE FE.cps.toList (sL "entry ") (37::100::sL " does not follow %d")
 c:PL f FE (sL " does not follow %d") (sL " does not follow ") [37,100]
theorem pf:∃(f:FA (Nat->FS->Sem (ForInStep FS))) (fin:FA (FS->Sem Fin)),
 (∀o F args,percentFormat o F args=isInstance args (.type "tuple")>>=λb=>asStr? args>>=λx=>fillsMappingSlot args>>=λm=>
   if b=true then seqItems? args>>=λy=>(«str.join».match_1 (λu8=>Sem Fin) y (λxs=>pure xs.toList>>=kk f fin o F args b x m) (λu8=>unsupported "internal:str.__mod__">>=kk f fin o F args b x m)) else pure [args]>>=kk f fin o F args b x m)/\
 PF f fin:=by
 refine ⟨?f, ?fin, ?z, ?_⟩
 case z=>
  intro o F args
  delta percentFormat
  exact rfl
 refine ⟨?_, ?_, ?_, ?_, ?_, ?_⟩
 ·intros;kernel_rfl
 ·intros;kernel_rfl
 ·intros;kernel_rfl
 ·unfold PL;intros;kernel_rfl
 ·unfold PL;intros;kernel_rfl
 ·unfold PL;intros;kernel_rfl
section
variable {M:Model}{A:Around}{E:Value->Shared->Prop}{s:Shared}{f:FA (Nat->FS->Sem (ForInStep FS))}{fin:FA (FS->Sem Fin)}{l:List Nat}{k N:Nat}{p:List Value}{w:Writer}{r t lit:List Nat}{T F' :Str}{o args:Value}{b m:Bool}{x:Option Str}{Q:FS->Shared->Prop}
theorem uU {β:Type}{t t' :Sem β}{Q:β->Shared->Prop}(e:t' =t)(h:wpAny M A t' Q E s):wpAny M A t Q E s:=e▸h
theorem DM {β:Type}{R:Sem β}{Q:β->Shared->Prop}(g:KPc.Good w T N)(hN:N<=16777216)(h:wpAny M A R Q E s):wpAny M A (gd w R) Q E s:=by
 unfold gd
 rw [if_neg (KPc.short_good g hN)];exact h
theorem Wu {f:Nat->FS->Sem (ForInStep FS)}(hl:l.length=k+1)(g:KPc.Good w T N)(hN:N<=16777216){y b0:FS}(e:∀i,gd w (pure (.yield y))=f i b0)(h:∀l' :List Nat,l'.length=k->wpAny M A (forIn l' y f) Q E s):wpAny M A (forIn l b0 f) Q E s:=by
 cases l with
 |nil=>exact absurd hl.symm (Nat.succ_ne_zero k)
 |cons i l=>
  refine KPc.turn ?_
  exact uU (e i) (DM g hN (bu (h l (Nat.succ.inj hl))))
theorem Uf (hp:PL f F' r lit t)(hl:l.length=k+1)(g:KPc.Good w T N)(hN:N<=16777216)(h:∀(l' :List Nat) w',l'.length=k->KPc.Good w' (T++⟨lit.toArray⟩) (N+(⟨lit.toArray⟩:Str).length)->wpAny M A (forIn l' (p,w',t) (f o F' args b x m)) Q E s):wpAny M A (forIn l (p,w,r) (f o F' args b x m)) Q E s:=
 Wu hl g hN (λi=>hp o args b x m i p w) λl' td=>h l' _ td (KPc.good_add g (KPc.obj_none rfl))
theorem Uo (hp:PF f fin)(hl:l.length=k+1)(g:KPc.Good w T N)(hN:N<=16777216){Q:Fin->Shared->Prop}
  (h:∀t k,Q (.done (.ret (.str T t))) {s with toks:=k}):wpAny M A (forIn l ([],w, []) (f o F' args b x m)) (λa s=>wpAny M A (fin o F' args b x m a) Q E s) E s:=by
 cases l with
 |nil=>exact absurd hl.symm (Nat.succ_ne_zero k)
 |cons i l=>exact KPc.turn (uU (hp.z ..) (DM g hN (bu (uU (hp.e ..) (KPc.finish_ok g hN rfl h)))))
theorem LO {prog:Program}{W:World}{n:Int}{Q:List Nat×Option Value×Bool->Shared->Prop}(h0:0<=n)(hd:n.natAbs.log2<1920)(h:∀q,Q ((Str.ofString (toString n)).cps.toList,none,true) {s with toks:=q}):wpAny (model prog W) A (Ug n) Q E s:=by
 refine ar (wpAny_mkInt ?_)
 refine ar (call_gives F.slot_int_repr (typeIs_int _ _ _) F.entry_int_repr (F.args_int_repr_1 _) (gives_int_repr _ _ (KPt.hd2 hd)) ⟨int_text_fits (KPt.hd2 hd), ?_⟩)
 refine ar (db (a:=some _) rfl ?_)
 refine ar (bu (bu ?_))
 rw [KPc.int_text {type:=100} rfl (.inl rfl) rfl h0,Int.natAbs_of_nonneg h0]
 exact h _
theorem Mh {d:Str}{Q:ForInStep FS->Shared->Prop}(h:Q (.yield (p,w.add d none,r)) s):wpAny M A (Uw w p r (d.cps.toList,none,true)) Q E s:=by
 refine bu ?_
 show Q (.yield (p,w.add ⟨_⟩ (if r.isEmpty=true then none else none),r)) s
 rw [ite_self,Array.toArray_toList];exact h
theorem SC {W:World}(hp:PF f fin)(hl:l.length=k+1)(g:KPc.Good w T N)(hN:N<=16777216)(h0:0<=n)(h1:n<10^10)(hd:n.natAbs.log2<1920)
  (h:∀(l' :List Nat) w' q,l'.length=k->KPc.Good w' (T++Str.ofString (toString n)) (N+10)->wpAny (model prog W) A (forIn l' (p,w',r) (f o F' args b x m)) Q E {s with toks:=q}):wpAny (model prog W) A (forIn l (.int n u::p,w,37::100::r) (f o F' args b x m)) Q E s:=by
 cases l with
 |nil=>exact absurd hl.symm (Nat.succ_ne_zero k)
 |cons i l=>
  refine KPc.turn (uU (hp.i ..) (DM g hN (ar (wpAny_holding (ar (db (a:=n) rfl (LO h0 hd λq=>Mh ?_)))))))
  exact h l _ _ (Nat.succ.inj hl) (KPc.good_mono (KPc.good_add g (KPc.obj_none rfl)) (Nat.add_le_add_left (toString_length_le h0 (by decide) h1) _))
theorem oz {n:Int}(h0:0<=n)(h1:n<10^10):n.natAbs.log2<1920:=by
 have:n.natAbs<2^1920:=Nat.lt_of_lt_of_le (show n.natAbs<10^10 by lia) (by decide+kernel)
 by_cases q:n.natAbs=0
 ·rw [q];decide+kernel
 ·exact (Nat.log2_lt q).mpr this
theorem L7 {prog:Program}{W:World}{i:Int}{u tk:Tok}{Q:Fin->Shared->Prop}(h0:0<=i)(h1:i<10^10)(hd:i.natAbs.log2<1920)
  (h:∀t' k,Q (.done (.ret (.str (Str.empty++⟨(sL "no command is of kind ").toArray⟩++Str.ofString (toString i)) t'))) {s with toks:=k}):wpAny (model prog W) A («str.__mod__» ⟨[.str FK tk, .int i u], []⟩) Q E s:=by
 rw [KPc.entry_is]
 refine pf.elim λf z=>z.elim λfin z=>uU (z.1 _ _ _).symm ?_
 refine ar (wpAny_isInstance (typeIs_int _ _ _) F.sub_int_tuple ?_)
 refine ar (db (a:=none) rfl ?_)
 refine ar (db (KPc.fills _ _) ?_)
 refine wpAny_ite (KPc.ite_no Bool.false_ne_true ?_)
 refine ar (bu ?_)
 refine ar ?_
 rw [KPc.range_list]
 refine Uf z.2.a (k:=23) (by rw [List.length_range'];kernel_rfl) KPc.good0 (by decide) λl1 w1 e1 g1=> ?_
 refine SC z.2 e1 g1 (by decide+kernel) h0 h1 hd λl2 w2 q e2 g2=> ?_
 have e:0+(⟨(sL "no command is of kind ").toArray⟩:Str).length+10<=16777216:=by decide+kernel
 exact Uo z.2 e2 g2 e h
theorem Hc {prog:Program}{w:World}{n:Int}{t u:Tok}{Q:Value->Shared->Prop}(h0:0<=n)(h1:n<10^10)(h:∀T t' k,Q (.str T t') {s with toks:=k}):wpAny (model prog w) A (binaryOp .Mod (.str (Str.ofString "no command is of kind %d") t) (.int n u)) Q E s:=by
 refine KPc.mod_int (X' :=FK) (by rfl) h0 h1 (T:=λi=>Str.empty++⟨(sL "no command is of kind ").toArray⟩++Str.ofString (toString i)) ?_ λt' k=>h _ t' k
 intro i h0 h1 hd _
 refine KPc.meets_of ?_
 intro _ _ _ _ _ _ h
 exact L7 h0 h1 hd h
theorem Lc {prog:Program}{W:World}{i j:Int}{D:Addr}{u v tk:Tok}{Q:Fin->Shared->Prop}(ht:IsTup s.heap D #[.int i u, .int j v])(a0:0<=i)(a1:i<10^10)(ad:i.natAbs.log2<1920)(b0:0<=j)(b1:j<10^10)(bd:j.natAbs.log2<1920)
  (h:∀t' k,Q (.done (.ret (.str (Str.empty++⟨(sL "entry ").toArray⟩++Str.ofString (toString i)++⟨(sL " does not follow ").toArray⟩++Str.ofString (toString j)) t'))) {s with toks:=k}):wpAny (model prog W) A («str.__mod__» ⟨[.str FE tk, .ref D], []⟩) Q E s:=by
 obtain ⟨o,hg,hc,hn,hd⟩:=ht
 rw [KPt.entry_is_r]
 refine pf.elim λf z=>z.elim λfin z=>uU (z.1 _ _ _).symm ?_
 refine ar (wpAny_isInstance (T:= "tuple") ⟨o,hg,hc⟩ KPt.sub_tt ?_)
 refine ar (KPt.asStr_ref hg hd ?_)
 refine ar (KPt.fills_ref ⟨o,hg,hc⟩ λu8=> ?_)
 refine wpAny_ite (KPc.ite_yes rfl ?_)
 refine ar (wpAny_seqItems hg hd ?_)
 refine ar (bu ?_)
 refine ar ?_
 rw [KPc.range_list]
 refine Uf z.2.b (k:=26) (by rw [List.length_range'];kernel_rfl) KPc.good0 (by decide) λl1 w1 e1 g1=> ?_
 refine SC z.2 e1 g1 (by decide+kernel) a0 a1 ad λl2 w2 q e2 g2=> ?_
 refine Uf z.2.c e2 g2 (by decide+kernel) λl1 w1 e1 g1=> ?_
 refine SC z.2 e1 g1 (by decide+kernel) b0 b1 bd λl2 w2 q e2 g2=> ?_
 have e:0+(⟨(sL "entry ").toArray⟩:Str).length+10+(⟨(sL " does not follow ").toArray⟩:Str).length+10<=16777216:=by decide+kernel
 exact Uo z.2 e2 g2 e h
theorem BO {prog:Program}{w:World}{a b:Int}{h₀:Heap}{L:Addr}{ac:ao}{D:Addr}{t u v:Tok}{Q:Value->Shared->Prop}(N:News h₀ L s.heap ac)(hm:(D,jG [.int a u, .int b v])∈ac)(a0:0<=a)(a1:a<10^10)(b0:0<=b)(b1:b<10^10)
  (h:∀T t' k,Q (.str T t') {s with toks:=k}):wpAny (model prog w) A (binaryOp .Mod (.str (Str.ofString "entry %d does not follow %d") t) (.ref D)) Q E s:=
 KPt.mod_tuple (X' :=FE) N hm (by rfl) (KPt.meets_tup λu8 u8 u8 u8 u8 u8 ht h=>Lc ht a0 a1 (oz a0 a1) b0 b1 (oz b0 b1) h) λt' k=>h _ t' k
end
end
section
variable {prog:Program}{w:World}{A:Around}{E:Value->Shared->Prop}{s:Shared}{env:Env}
theorem Ir {k:_}{f:Str}(hf:f.length<=1000)
  (h:aG (model prog w) A (eval v env) (λrv s₁=>∃n u,rv= .int n u/\0<=n/\n<10^10/\∀T t k,Q (.str T t) {s₁ with toks:=k}) E s):
  aG (model prog w) A (eval (.JoinedStr [.FormattedValue v (-1) none p, .Constant (.str f) k p2] pos) env) Q E s:=by
 rw [arm_eval_JoinedStr]
 show aG _ _ (joinParts Str.empty [eval (.FormattedValue v (-1) none p) env,eval (.Constant (.str f) k p2) env]) _ _ _
 rw [joinParts,arm_eval_FormattedValue]
 refine ag (ag (aA h λrv s₁ h₁=> ?_))
 refine xM h₁ λn u de h0 h1 hq=> ?_;clear h₁;subst de
 refine ag (aB ?_)
 show aG _ _ (do let v'<-holding [.int n u] (pure (.int n u));formatField v' Str.empty) _ _ _
 refine ag (aD (aq ?_))
 have hd:=oz h0 h1
 have len:(Str.ofString (toString n)).length<=100000:=cy (toString_length_le (k:=10) h0 (by decide) h1) (by decide)
 refine ap (wpAny_formatField_int hd ?_)
 refine ag (aq ?_)
 have e0:(Str.empty:Str).length=0:=rfl
 show aG _ _ (if Str.empty.length+(Str.ofString (toString n)).length>sizeLine then _ else _) _ _ _
 rw [if_neg (by rw [e0,eT];lia)]
 first
  |refine ag (aq ?_)
  |skip
 rw [joinParts]
 refine ag (ap (wpAny_Constant_str ?_))
 refine ag (aq ?_)
 have l2:(Str.empty++Str.ofString (toString n)).length=(Str.ofString (toString n)).length:=by rw [strLen_append,e0,Nat.zero_add]
 show aG _ _ (if (Str.empty++Str.ofString (toString n)).length+f.length>sizeLine then _ else _) _ _ _
 rw [if_neg (by rw [l2,eT];lia)]
 first
  |refine ag (aq ?_)
  |skip
 show aG _ _ (mkStr _) _ _ _
 exact ap (wpAny_mkStr (hq _ _ _) (by rw [strLen_append,l2,eT];lia))
end
theorem Lu (h:∀t',Q (.int (-i) t') {s with toks:=s.toks+1}):wpAny (model prog w) A (unaryOp .USub (.int i t)) Q E s:=PyProof.Rows.neg_int (h _)
set_option maxHeartbeats 4000000
theorem z8 (h:dK [y]=true):∃i,y= .int i/\0<=i/\i<100000:=by
 cases y with
 |int i=>
  have:=jF (jF (show (decide (0<=i)&&decide (i<100000)&&true)=true from h)).1
  exact ⟨i,rfl,of_decide_eq_true this.1,of_decide_eq_true this.2⟩
 |_=>cases h
theorem JO (h:dK (y::ys)=true):dK [y]=true/\dK ys=true:=by
 cases y with
 |int i=>
  have z:=jF (show (decide (0<=i)&&decide (i<100000)&&dK ys)=true from h)
  exact ⟨by show (decide (0<=i)&&decide (i<100000)&&true)=true;rw [z.1];rfl,z.2⟩
 |_=>cases h
section
variable {c:Cx}{d n k:Nat}{R:au}{v:CV}{env:Env}
theorem AW (v1:av ac ah y ry)(h:bw av c m ac ah (if dK [y] then .ok .text H else .bad) Q E):
  ∃i u,y= .int i/\ry= .int i u/\0<=i/\i<100000/\bw av c m ac ah (.ok .text H) Q E:=by
 by_cases hi:dK [y]=true
 ·rw [if_pos hi] at h
  refine mF (z8 hi) λi gP h0 h1=> ?_;subst gP
  obtain ⟨u,rfl⟩:=aQ v1
  exact ⟨i,u,rfl,rfl,h0,h1,h⟩
 ·rw [if_neg hi] at h
  exact h.elim
noncomputable abbrev TQ (c:Cx)(n k:Nat)(R:au)(v:CV)(env:Env)(x:Option Expr)(e:SE):Prop:=
 ∀{A:Around} {l:cR} {m:Str->Option Value} {ac:ao} {ah:dN} {H:HP} {s:Shared} {Q:Value->Shared->Prop} {E:Value->Shared->Prop},lM c n (k+1) A->gT c v env l m ac ah->aV c m ac ah H s->
  bw av c m ac ah (bj c.P R e l H) Q E->aG (model c.prog c.w) A (valueOrNone (evalOpt x env)) Q E s
noncomputable abbrev SI (c:Cx)(n k:Nat)(R:au)(v:CV)(env:Env)(xs:List Expr)(es:nG):Prop:=
 ∀{A:Around} {l:cR} {m:Str->Option Value} {ac:ao} {ah:dN} {H:HP} {s:Shared} {pos:Pos} {Q:Value->Shared->Prop} {E:Value->Shared->Prop},lM c n (k+1) A->gT c v env l m ac ah->aV c m ac ah H s->
  bw av c m ac ah (GQ c.P R es l H) Q E->aG (model c.prog c.w) A (boolOp pos .And (evalEach xs env)) Q E s
noncomputable abbrev SQ (c:Cx)(n k:Nat)(R:au)(v:CV)(env:Env)(xs:List Expr)(es:nG):Prop:=
 ∀{A:Around} {l:cR} {m:Str->Option Value} {ac:ao} {ah:dN} {H:HP} {s:Shared} {pos:Pos} {Q:Value->Shared->Prop} {E:Value->Shared->Prop},lM c n (k+1) A->gT c v env l m ac ah->aV c m ac ah H s->
  bw av c m ac ah (LI c.P R es l H) Q E->aG (model c.prog c.w) A (boolOp pos .Or (evalEach xs env)) Q E s
noncomputable abbrev Mz (c:Cx)(n k:Nat)(R:au)(v:CV)(env:Env)(xs:List Expr)(es:nG):Prop:=
 ∀{A:Around} {l:cR} {m:Str->Option Value} {ac:ao} {ah:dN} {H:HP} {s:Shared} {Q:Bool->Shared->Prop} {E:Value->Shared->Prop},lM c n (k+1) A->gT c v env l m ac ah->aV c m ac ah H s->
  bw yu c m ac ah (pc c.P R es l H) Q E->aG (model c.prog c.w) A (allTrue .And xs env) Q E s
noncomputable abbrev Md (c:Cx)(n k:Nat)(R:au)(v:CV)(env:Env)(xs:List Expr)(es:nG):Prop:=
 ∀{A:Around} {l:cR} {m:Str->Option Value} {ac:ao} {ah:dN} {H:HP} {s:Shared} {Q:Bool->Shared->Prop} {E:Value->Shared->Prop},lM c n (k+1) A->gT c v env l m ac ah->aV c m ac ah H s->
  bw yu c m ac ah (q8 c.P R es l H) Q E->aG (model c.prog c.w) A (allTrue .Or xs env) Q E s
theorem Mk (ok:c.Ok d){x p i}(h1:eg v x=true)(h2:c.S.glob.lookup x=some (.int i)):lK c n k R v env (.Name x p) (.int i):=λhA he hn h=>by
 obtain ⟨t,z⟩:=ok.mM.Qn _ _ h2
 exact ap (he.Ng _ _ h1 z _ _ _ _ _ _ _ _ hn (h _ _ _ _ hn br.refl (.int _ _)))
theorem Er (ok:c.Ok d){x p b}(h1:eg v x=true)(h2:c.S.glob.lookup x=some (.bytes b)):lK c n k R v env (.Name x p) (.bytes b):=λhA he hn h=>by
 refine jX (ok.mM.FC _ _ h2) λdm t z z1 z2=> ?_
 exact ap (he.Ng _ _ h1 z _ _ _ _ _ _ _ _ hn (h _ _ _ _ hn br.refl (.bytes _ _ z1 z2)))
theorem Oc (ok:c.Ok d){o j p a i}(h1:stop j=false)(ia:lK c n k R v env o a)(ii:lK c n k R v env j i):lK c n k R v env (.Subscript o j p) (.sub a i):=λhA he hn h=>
 Lj (ia hA he hn (bw.bind h λy H1 n1 l1 s1 ry cN X1 v1 gf=>ii hA (he.ext X1) cN (bw.bind gf λz H2 n2 l2 s2 rz fI X2 v2 ka=>Tz ok fI h1 (v1.ext X2) v2 ka)))
theorem Jr (ok:c.Ok d){o l' h' q p a lo hi}(ia:lK c n k R v env o a)(il:TQ c n k R v env l' lo)(ih:TQ c n k R v env h' hi):lK c n k R v env (.Subscript o (.Slice l' h' none q) p) (.slice a lo hi):=λhA he hn h=>
 Lj (ia hA he hn (bw.bind h λy H1 n1 l1 s1 ry cN X1 v1 gf=>FM (il hA (he.ext X1) cN (bw.bind gf λz H2 n2 l2 s2 rz fI X2 v2 ka=>ih hA ((he.ext X1).ext X2) fI (bw.bind ka λw H3 n3 l3 s3 Ui rZ X3 v3 G0=>M8 ok rZ ((v1.ext X2).ext X3) (v2.ext X3) v3 G0)))))
theorem Ov (ok:c.Ok d){l' r p op a b}(ia:lK c n k R v env l' a)(ib:lK c n k R v env r b):lK c n k R v env (.BinOp l' (lI op) r p) (.bin op a b):=λhA he hn h=>
 Je (ia hA he hn (bw.bind h λy H1 n1 l1 s1 ry cN X1 v1 gf=>ib hA (he.ext X1) cN (bw.bind gf λz H2 n2 l2 s2 rz fI X2 v2 ka=>Sb ok fI (v1.ext X2) v2 ka)))
theorem PW {x p a}(ia:lK c n k R v env x a):lK c n k R v env (.UnaryOp .USub x p) (.neg a):=λhA he hn h=>
 MP (ia hA he hn (bw.bind h λy H1 n1 l1 s1 ry cN X1 v1 gf=>by
  cases v1 with
  |int i t=>exact ap (Lu λt' =>gf _ _ _ _ (cN.toks _) br.refl (.int _ _))
  |_=>exact gf.elim))
theorem Qv {l' r p op a b}(h1:stop r=false)(ia:lK c n k R v env l' a)(ib:lK c n k R v env r b):lK c n k R v env (.Compare l' [tp op] [r] p) (.cmp op a b):=λhA he hn h=>
 TN (ia hA he hn (bw.bind h λy H1 n1 l1 s1 ry cN X1 v1 gf=>ib hA (he.ext X1) cN (bw.bind gf λz H2 n2 l2 s2 rz fI X2 v2 ka=>PX (f:=λr H=> .ok (.bool r) H) hA fI (v1.ext X2) v2 ka))) ((pl r).marks h1 _)
theorem LY {l' r p op a b}(h1:stop r=false)(ia:lK c n k R v env l' a)(ib:lK c n k R v env r b):HU c n k R v env (.Compare l' [tp op] [r] p) (.cmp op a b):=λhA he hn h=>
 Fy (ia hA he hn (bw.bind h λy H1 n1 l1 s1 ry cN X1 v1 gf=>ib hA (he.ext X1) cN (bw.bind gf λz H2 n2 l2 s2 rz fI X2 v2 ka=>by
  refine PX (f:=λr H=> .ok (.bool r) H) hA fI (v1.ext X2) v2 ?_
  cases q:bV op y z H2 with
  |none=>rw [q] at ka;exact ka.elim
  |some r=>
   rw [q] at ka
   intro n3 l3 s3 rx rZ X3 v3
   cases v3
   exact ap (uJ rZ (.bool r) rfl λt=>ka _ _ _ _ (rZ.toks t) X3 rfl)))) ((pl r).marks h1 _)
theorem Mi {x p a}(ia:HU c n k R v env x a):HU c n k R v env (.UnaryOp .Not x p) (.not a):=λhA he hn h=>
 F6 (ia hA he hn (bw.bind h λy H1 n1 l1 s1 ry cN X1 v1 gf=>by cases v1;exact gf _ _ _ _ cN br.refl rfl))
theorem Py {x y z p a b e}(i1:HU c n k R v env x a)(i2:lK c n k R v env y b)(i3:lK c n k R v env z e):lK c n k R v env (.IfExp x y z p) (.ite a b e):=λhA he hn h=>
 SK (i1 hA he hn (bw.bind h λy H1 n1 l1 s1 ry cN X1 v1 gf=>by
  cases v1
  cases y with
  |true=>exact i2 hA (he.ext X1) cN gf
  |false=>exact i3 hA (he.ext X1) cN gf))
theorem R1 {xs es}(hc:Sh xs es)(ih:ul c n k R v env xs es)(hA:lM c n (k+1) A)(he:gT c v env l m ac ah)(hn:aV c m ac ah H s)
  (h:bw (λn l vs rs=>aI n l vs rs) c m ac ah (dM c.P R es l H) (λrs s=>rs.length=xs.length->Q rs s) E):aG (model c.prog c.w) A (spliced (backTo pos (starEach xs env))) Q E s:=by
 refine ih hA he hn ?_
 cases q:dM c.P R es l H with
 |ok vs H' =>
  rw [q] at h
  intro n' l' s' rx jf X' V'
  exact h n' l' s' rx jf X' V' (by rw [<-V'.length];exact hc.len q)
 |exc j H' =>rw [q] at h;exact h
 |bad=>rw [q] at h;exact h
theorem AL {α β:Type}{ys:List α}{xs:List β}(h1:xs.length<=30)(h2:n=ys.length)(h3:ys.length=xs.length):n<=big:=by
 rw [h2,h3]
 exact cy h1 (by decide)
theorem IW {xs q p es}(h1:xs.length<=30)(hc:Sh xs es)(ih:ul c n k R v env xs es):lK c n k R v env (.Tuple xs q p) (.tuple es):=λhA he hn h=>
 Fd (R1 hc ih hA he hn (bw.bind h λy H1 n1 l1 s1 ry cN X1 v1 gf hl=>E7 cN v1 (AL h1 v1.length hl) gf))
theorem M1 {xs p es}(h1:xs.length<=30)(hc:Sh xs es)(ih:ul c n k R v env xs es):lK c n k R v env (.List xs p) (.list es):=λhA he hn h=>
 PG (R1 hc ih hA he hn (bw.bind h λy H1 n1 l1 s1 ry cN X1 v1 gf hl=>ND cN v1 (AL h1 v1.length hl) gf))
theorem Ml {kk q xs j r p es}(h1:xs.length=2)(hc:Sh xs es)(ih:ul c n k R v env xs es):lK c n k R v env (.BinOp (.Constant (.str "entry %d does not follow %d") kk q) .Mod (.Tuple xs j r) p) (.Aw es):=λhA he hn h=>by
 refine Je (ap (wpAny_Constant_str ?_))
 refine Fd (R1 hc ih hA he (hn.toks _) (bw.bind h λy H1 n1 l1 s1 ry cN X1 v1 gf hl=> ?_))
 by_cases hi:dK y=true
 ·rw [if_pos hi] at gf
  cases v1 with
  |nil=>rw [h1] at hl;exact OE hl
  |cons c1 v1=>
   cases v1 with
   |nil=>rw [h1] at hl;cases hl
   |cons c2 v1=>
    cases v1 with
    |cons c3 v1=>rw [h1] at hl;cases hl
    |nil=>
     obtain ⟨i1,i2⟩:=JO hi
     refine mF (z8 i1) λa gP a0 a1=> ?_;subst gP
     refine mF (z8 i2) λb gP b0 b1=> ?_;subst gP
     obtain ⟨u,rfl⟩:=aQ c1
     obtain ⟨w,rfl⟩:=aQ c2
     refine E7 cN (.cons c1 (.cons c2 .nil)) (show 2<=4096 by decide) λn2 l2 s2 rx fI X2 v2=> ?_
     cases v2 with
     |tuple hm nH _=>
      cases nH with
      |cons c1 nH=>
       cases nH with
       |cons c2 nH=>
        cases nH
        obtain ⟨u',rfl⟩:=aQ c1
        obtain ⟨w',rfl⟩:=aQ c2
        refine fI.gE λg T F N=> ?_
        exact ap (BO N hm a0 (by exact iB ‹_› rfl) b0 (by exact iB ‹_› rfl) λT t' k=>gf _ _ _ _ (fI.toks k) X2 (.text _ _))
 ·rw [if_neg hi] at gf
  exact gf.elim
theorem Lw {kk q x p a}(ia:lK c n k R v env x a):lK c n k R v env (.BinOp (.Constant (.str "no command is of kind %d") kk q) .Mod x p) (.xw a):=λhA he hn h=>
 Je (ap (wpAny_Constant_str (ia hA he (hn.toks _) (bw.bind h λy H1 n1 l1 s1 ry cN X1 v1 gf=>by
  refine Lo (AW v1 gf) λi u de wN i0 i1 hq=> ?_;subst de;subst wN
  exact ap (Hc i0 (by exact iB ‹_› rfl) λT t' k=>hq _ _ _ _ (cN.toks k) br.refl (.text _ _))))))
theorem Mo {x q kk r p a}(ia:lK c n k R v env x a):lK c n k R v env (.JoinedStr [.FormattedValue x (-1) none q, .Constant (.str " octets are left over") kk r] p) (.zl a):=λhA he hn h=>
 Ir (by decide) (ia hA he hn (bw.bind h λy H1 n1 l1 s1 ry cN X1 v1 gf=>by
  refine Lo (AW v1 gf) λi u de wN i0 i1 hq=> ?_;subst de;subst wN
  exact ⟨i,u,rfl,i0,by exact iB ‹_› rfl,λT t' k=>hq _ _ _ _ (cN.toks k) br.refl (.text _ _)⟩))
theorem MX (ok:c.Ok d){x p i}(h1:gq v x i=true):HU c n k R v env (.Name x p) (.loc i):=λ{A l m ac ah H s Q E} hA he hn h=>by
 refine AQ (R:=R) rfl (Fm ok h1) hA he hn ?_
 change bw yu c m ac ah (match l[i]? with|some (some v)=>fj (eO v H) H|_=> .bad) Q E at h
 change bw yu c m ac ah ((match l[i]? with|some (some v)=>dz.ok v H|_=> .bad:dz SV).bind _) Q E
 generalize l[i]? =o at*
 cases o with
 |none=>exact h.elim
 |some o=>cases o with
  |none=>exact h.elim
  |some v=>exact h
theorem SN {x xs e es}(h1:stop x=false)(ie:lK c n k R v env x e)(ir:ul c n k R v env xs es):ul c n k R v env (x::xs) (.cons e es):=λhA he hn h=>
 yI (h1) (ie hA he hn (bw.bind h λy H1 n1 l1 s1 ry cN X1 v1 gf=>ir hA (he.ext X1) cN (bw.bind gf λys H2 n2 l2 s2 ZD fI X2 v2 ka=>ka _ _ _ _ fI br.refl (.cons (v1.ext X2) v2))))
theorem QB {x xs e es}(hc:Sh xs es)(ie:lK c n k R v env x e)(ir:SI c n k R v env xs es):SI c n k R v env (x::xs) (.cons e es):=λhA he hn h=>by
 cases hc.k with
 |nil=>exact vh (ie hA he hn h)
 |cons x' xs e' r=>
  refine u7 (ie hA he hn (bw.bind h λy H1 n1 l1 s1 ry cN X1 v1 gf=>wC cN v1 (bw.bind gf λt H2 n2 l2 s2 rt fI X2 v2 ka=> ?_)))
  cases v2
  cases t with
  |true=>exact ir hA ((he.ext X1).ext X2) fI ka
  |false=>exact ka _ _ _ _ fI br.refl (v1.ext X2)
theorem RA {x xs e es}(hc:Sh xs es)(ie:lK c n k R v env x e)(ir:SQ c n k R v env xs es):SQ c n k R v env (x::xs) (.cons e es):=λhA he hn h=>by
 cases hc.k with
 |nil=>exact vh (ie hA he hn h)
 |cons x' xs e' r=>
  refine u7 (ie hA he hn (bw.bind h λy H1 n1 l1 s1 ry cN X1 v1 gf=>wC cN v1 (bw.bind gf λt H2 n2 l2 s2 rt fI X2 v2 ka=> ?_)))
  cases v2
  cases t with
  |false=>exact ir hA ((he.ext X1).ext X2) fI ka
  |true=>exact ka _ _ _ _ fI br.refl (v1.ext X2)
theorem Oj {x xs e es}(ie:HU c n k R v env x e)(ir:Mz c n k R v env xs es):Mz c n k R v env (x::xs) (.cons e es):=λhA he hn h=>
 wX (ie hA he hn (bw.bind h λt H1 n1 l1 s1 rt cN X1 v1 gf=>by
  cases v1
  cases t with
  |true=>exact ir hA (he.ext X1) cN gf
  |false=>exact gf _ _ _ _ cN br.refl rfl))
theorem PA {x xs e es}(ie:HU c n k R v env x e)(ir:Md c n k R v env xs es):Md c n k R v env (x::xs) (.cons e es):=λhA he hn h=>
 wX (ie hA he hn (bw.bind h λt H1 n1 l1 s1 rt cN X1 v1 gf=>by
  cases v1
  cases t with
  |false=>exact ir hA (he.ext X1) cN gf
  |true=>exact gf _ _ _ _ cN br.refl rfl))
theorem Y5 {x e}(h:∀l H,gK c.P R e l H= .bad):HU c n k R v env x e:=λhA he hn z=>by
 rw [h] at z
 exact z.elim
structure EO (c:Cx)(n k:Nat)(R:au)(v:CV)(env:Env)(x:Expr)(e:SE):Prop where
 E:lK c n k R v env x e
 T:HU c n k R v env x e
structure TJ (c:Cx)(n k:Nat)(R:au)(v:CV)(env:Env)(xs:List Expr)(es:nG):Prop where
 ev:ul c n k R v env xs es
 and:SI c n k R v env xs es
 or:SQ c n k R v env xs es
 all:Mz c n k R v env xs es
 any:Md c n k R v env xs es
theorem EO.val {x e}(h:lK c n k R v env x e)(z:∀l H,gK c.P R e l H= .bad):EO c n k R v env x e:=⟨h,Y5 z⟩
theorem EO.tr {x e}(h:lK c n k R v env x e)(hp:mL x=true)(z:∀l H,gK c.P R e l H=(bj c.P R e l H).bind λv H=>fj (eO v H) H):EO c n k R v env x e:=⟨h,λhA he hn q=>AQ hp h hA he hn (by rw [z] at q;exact q)⟩
structure Ck (S:ls)(v:CV)(x:Expr)(e:SE):Prop where
 s:∀{c:Cx} {d n k:Nat} {R:au} {env:Env},c.Ok d->d5 c n R->c.S=S->EO c n k R v env x e
structure HG (S:ls)(v:CV)(x:Option Expr)(e:SE):Prop where
 s:∀{c:Cx} {d n k:Nat} {R:au} {env:Env},c.Ok d->d5 c n R->c.S=S->TQ c n k R v env x e
structure ze (S:ls)(v:CV)(xs:List Expr)(es:nG):Prop where
 sh:Sh xs es
 s:∀{c:Cx} {d n k:Nat} {R:au} {env:Env},c.Ok d->d5 c n R->c.S=S->TJ c n k R v env xs es
end
section
variable {S:ls}{v:CV}
theorem Ck.none (k p):Ck S v (.Constant .none k p) .none:=⟨λok RS hS=> .val (λhA he hn h=>ap (Constant_none (h _ _ _ _ hn br.refl .none))) λu8 u8=>rfl⟩
theorem Ck.bool (b k p):Ck S v (.Constant (.bool b) k p) (.bool b):=⟨λok RS hS=> .tr (λhA he hn h=>ap (Constant_bool (h _ _ _ _ hn br.refl (.bool _)))) rfl λu8 u8=>rfl⟩
theorem Ck.int (i k p):Ck S v (.Constant (.int i) k p) (.int i):=⟨λok RS hS=> .val (λhA he hn h=>ap (wpAny_Constant_int (h _ _ _ _ (hn.toks _) br.refl (.int _ _)))) λu8 u8=>rfl⟩
theorem Ck.Se (x p i)(h1:eg v x=true)(h2:S.glob.lookup x=Option.some (.int i)):Ck S v (.Name x p) (.int i):=⟨λok RS hS=> .val (Mk ok h1 (hS▸h2)) λu8 u8=>rfl⟩
theorem Ck.bytes (b k p)(h:(b.map λc=>(c.toNat:Int)).length<=big):Ck S v (.Constant (.bytes b) k p) (.bytes (b.map λc=>(c.toNat:Int))):=⟨λok RS hS=> .val (λhA he hn q=>ap (Constant_bytes (q _ _ _ _ (hn.toks _) br.refl (.bytes _ _ (KBw.ints_list _) h)))) λu8 u8=>rfl⟩
theorem Ck.Lv (x p b)(h1:eg v x=true)(h2:S.glob.lookup x=Option.some (.bytes b)):Ck S v (.Name x p) (.bytes b):=⟨λok RS hS=> .val (Er ok h1 (hS▸h2)) λu8 u8=>rfl⟩
theorem Ck.text (s k p):Ck S v (.Constant (.str s) k p) .text:=⟨λok RS hS=> .val (λhA he hn h=>ap (wpAny_Constant_str (h _ _ _ _ (hn.toks _) br.refl (.text _ _)))) λu8 u8=>rfl⟩
theorem Ck.loc (x p i)(h:gq v x i=true):Ck S v (.Name x p) (.loc i):=⟨λok RS hS=>⟨Fm ok h,MX ok h⟩⟩
theorem Ck.attr (o p a k)(h1:jM o=true)(h2:Ck S v o a):Ck S v (.Attribute o (S.attr k) p) (.attr a k):=⟨λok RS hS=>hS▸ .tr (λhA he hn h=>O4 h1 ((h2.s ok RS hS).E hA he hn (bw.bind h λy H1 n1 l1 s1 ry cN X1 v1 h1=>KJ ok cN v1 h1))) rfl λu8 u8=>rfl⟩
theorem Ck.sub (o j p a i)(h1:stop j=false)(h2:Ck S v o a)(h3:Ck S v j i):Ck S v (.Subscript o j p) (.sub a i):=⟨λok RS hS=> .val (Oc ok h1 (h2.s ok RS hS).E (h3.s ok RS hS).E) λu8 u8=>rfl⟩
theorem Ck.slice (o l h q p a lo hi)(h1:Ck S v o a)(h2:HG S v l lo)(h3:HG S v h hi):Ck S v (.Subscript o (.Slice l h Option.none q) p) (.slice a lo hi):=⟨λok RS hS=> .val (Jr ok (h1.s ok RS hS).E (h2.s ok RS hS) (h3.s ok RS hS)) λu8 u8=>rfl⟩
theorem Ck.bin (l r p op a b)(h1:Ck S v l a)(h2:Ck S v r b):Ck S v (.BinOp l (lI op) r p) (.bin op a b):=⟨λok RS hS=> .val (Ov ok (h1.s ok RS hS).E (h2.s ok RS hS).E) λu8 u8=>rfl⟩
theorem Ck.neg (x p a)(h:Ck S v x a):Ck S v (.UnaryOp .USub x p) (.neg a):=⟨λok RS hS=> .val (PW (h.s ok RS hS).E) λu8 u8=>rfl⟩
theorem Ck.cmp (l r p op a b)(h1:stop r=false)(h2:Ck S v l a)(h3:Ck S v r b):Ck S v (.Compare l [tp op] [r] p) (.cmp op a b):=⟨λok RS hS=>⟨Qv h1 (h2.s ok RS hS).E (h3.s ok RS hS).E,LY h1 (h2.s ok RS hS).E (h3.s ok RS hS).E⟩⟩
theorem Ck.and (xs p es)(h:ze S v xs es):Ck S v (.BoolOp .And xs p) (.and es):=⟨λok RS hS=>⟨λhA he hn q=>by rw [arm_eval_BoolOp];exact (h.s ok RS hS).and hA he hn q,λhA he hn q=>u9 ((h.s ok RS hS).all hA he hn q)⟩⟩
theorem Ck.or (xs p es)(h:ze S v xs es):Ck S v (.BoolOp .Or xs p) (.or es):=⟨λok RS hS=>⟨λhA he hn q=>by rw [arm_eval_BoolOp];exact (h.s ok RS hS).or hA he hn q,λhA he hn q=>u9 ((h.s ok RS hS).any hA he hn q)⟩⟩
theorem Ck.not (x p a)(h:Ck S v x a):Ck S v (.UnaryOp .Not x p) (.not a):=⟨λok RS hS=>⟨λhA he hn h=>h.elim,Mi (h.s ok RS hS).T⟩⟩
theorem Ck.ite (x y z p a b c)(h1:Ck S v x a)(h2:Ck S v y b)(h3:Ck S v z c):Ck S v (.IfExp x y z p) (.ite a b c):=⟨λok RS hS=> .val (Py (h1.s ok RS hS).T (h2.s ok RS hS).E (h3.s ok RS hS).E) λu8 u8=>rfl⟩
theorem Ck.tuple (xs k p es)(h1:xs.length<=30)(h2:ze S v xs es):Ck S v (.Tuple xs k p) (.tuple es):=⟨λok RS hS=> .val (IW h1 h2.sh (h2.s ok RS hS).ev) λu8 u8=>rfl⟩
theorem Ck.list (xs p es)(h1:xs.length<=30)(h2:ze S v xs es):Ck S v (.List xs p) (.list es):=⟨λok RS hS=> .val (M1 h1 h2.sh (h2.s ok RS hS).ev) λu8 u8=>rfl⟩
theorem Ck.aM (p):Ck S v (.Dict [] [] p) .aM:=⟨λok RS hS=> .val (λhA he hn h=>Mj ok hn h) λu8 u8=>rfl⟩
theorem Ck.fS (x q xs p f es)(h1:eg v x=true)(h2:S.glob.lookup x=Option.some (.fn f))(h3:ze S v xs es):Ck S v (.Call (.Name x q) xs [] p) (.fS f es):=⟨λok RS hS=> .tr (λhA he hn h=>(ot ok RS h1 h3.sh (h3.s ok RS hS).ev hA he hn).1 _ (hS▸h2) h) rfl λu8 u8=>rfl⟩
theorem Ck.callC (x q xs p f es)(h1:eg v x=true)(h2:S.glob.lookup x=Option.some (.cls f))(h3:ze S v xs es):Ck S v (.Call (.Name x q) xs [] p) (.callC f es):=⟨λok RS hS=> .val (λhA he hn h=>(ot ok RS h1 h3.sh (h3.s ok RS hS).ev hA he hn).2.1 _ (hS▸h2) h) λu8 u8=>rfl⟩
theorem Ck.bG (x q xs p f es)(h1:eg v x=true)(h2:S.glob.lookup x=Option.some (.bi f))(h3:ze S v xs es):Ck S v (.Call (.Name x q) xs [] p) (.bG f es):=⟨λok RS hS=> .val (λhA he hn h=>(ot ok RS h1 h3.sh (h3.s ok RS hS).ev hA he hn).2.2 _ (hS▸h2) h) λu8 u8=>rfl⟩
theorem Ck.eu (o q xs p a n es)(h1:jM o=true)(h2:xs.length<30)(h3:q.endLine=p.line)(h4:Ck S v o a)(h5:ze S v xs es):Ck S v (.Call (.Attribute o (S.attr n) q) xs [] p) (.eu a n es):=⟨λok RS hS=>hS▸ .tr (λhA he hn h=>LH ok RS h1 h2 (beq_iff_eq.mpr h3) h5.sh (h4.s ok RS hS).E (h5.s ok RS hS).ev hA he hn h) rfl λu8 u8=>rfl⟩
theorem Ck.Aw (k q xs j r p es)(h1:xs.length=2)(h2:ze S v xs es):Ck S v (.BinOp (.Constant (.str "entry %d does not follow %d") k q) .Mod (.Tuple xs j r) p) (.Aw es):=⟨λok RS hS=> .val (Ml h1 h2.sh (h2.s ok RS hS).ev) λu8 u8=>rfl⟩
theorem Ck.xw (k q x p a)(h:Ck S v x a):Ck S v (.BinOp (.Constant (.str "no command is of kind %d") k q) .Mod x p) (.xw a):=⟨λok RS hS=> .val (Lw (h.s ok RS hS).E) λu8 u8=>rfl⟩
theorem Ck.zl (x q k r p a)(h:Ck S v x a):Ck S v (.JoinedStr [.FormattedValue x (-1) Option.none q, .Constant (.str " octets are left over") k r] p) (.zl a):=⟨λok RS hS=> .val (Mo (h.s ok RS hS).E) λu8 u8=>rfl⟩
theorem HG.none:HG S v .none .none:=⟨λok RS hS=>λhA he hn h=>Kz (h _ _ _ _ hn br.refl .none)⟩
theorem HG.some (x e)(h:Ck S v x e):HG S v (Option.some x) e:=⟨λok RS hS=>λhA he hn q=>Kz ((h.s ok RS hS).E hA he hn q)⟩
theorem ze.nil:ze S v [] .nil:=⟨.nil,λok RS hS=>⟨λhA he hn h=>Bb (h _ _ _ _ hn br.refl .nil),λhA he hn h=>h.elim,λhA he hn h=>h.elim,λhA he hn h=>BJ (h _ _ _ _ hn br.refl rfl),λhA he hn h=>BJ (h _ _ _ _ hn br.refl rfl)⟩⟩
theorem ze.cons (x xs e es)(h1:stop x=false)(h2:Ck S v x e)(h3:ze S v xs es):ze S v (x::xs) (.cons e es):=⟨.cons h1 h3.sh,λok RS hS=>⟨SN h1 (h2.s ok RS hS).E (h3.s ok RS hS).ev,QB h3.sh (h2.s ok RS hS).E (h3.s ok RS hS).and,RA h3.sh (h2.s ok RS hS).E (h3.s ok RS hS).or,Oj (h2.s ok RS hS).T (h3.s ok RS hS).all,PA (h2.s ok RS hS).T (h3.s ok RS hS).any⟩⟩
end
section
variable {c:Cx}{d n k:Nat}{R:au}{v:CV}{env:Env}
theorem f9 (ok:c.Ok d)(RS:d5 c n R)(e:SE)(x:Expr)(h:Ck c.S v x e):lK c n k R v env x e:=(h.s ok RS rfl).E
theorem DK (ok:c.Ok d)(RS:d5 c n R)(e:SE)(x:Expr)(h:Ck c.S v x e):HU c n k R v env x e:=(h.s ok RS rfl).T
end
inductive DG:List Expr->List Str->Prop where
 |nil:DG [] []
 |cons (x p es xs) (t:DG es xs):DG (.Name x p::es) (x::xs)
inductive CN (v:CV):List Expr->List Nat->Prop where
 |nil:CN v [] []
 |cons (x p i es is) (h:v.om.lookup x=some i) (t:CN v es is):CN v (.Name x p::es) (i::is)
inductive CT (v:CV):Expr->List Nat->Prop where
 |name (x p i) (h:v.om.lookup x=some i):CT v (.Name x p) [i]
 |tup (es k p is) (h1:es.length≠1) (h2:CN v es is):CT v (.Tuple es k p) is
theorem DG.each {env:Env}(h:DG es xs):(assignEach es env).length=es.length/\(assignEach es env).findIdx? (·.1)=none/\(assignEach es env).map (·.2)=es.map λt=>assign t env:=by
 induction h with
 |nil=>exact ⟨rfl,rfl,rfl⟩
 |cons x p es xs t ih=>
  refine rm ih λa b d=> ?_;clear ih
  rw [show assignEach (.Name x p::es) env=(false,assign (.Name x p) env)::assignEach es env from rfl]
  exact ⟨congrArg (·+1) a,by rw [List.findIdx?_cons,b];rfl,by rw [dY,dY,d]⟩
theorem CN.YW (h:CN v es is):∃xs,DG es xs:=by
 induction h with
 |nil=>exact ⟨_, .nil⟩
 |cons x p i es is h t ih=>exact ih.elim λxs n=>⟨_, .cons x p es xs n⟩
theorem CN.len (h:CN v es is):es.length=is.length:=by
 induction h with
 |nil=>rfl
 |cons x p i es is h t ih=>exact congrArg (·+1) ih
theorem Cq (h:is.length≠1)(e:kC l is u=some l'):∃vs,u= .tuple vs/\is.length=vs.length/\l' =dJ l is vs:=by
 have two:∀HV:List Nat,kC l HV u=some l'->HV.length≠1->(∀vs,u= .tuple vs->kC l HV u=if HV.length=vs.length then some (dJ l HV vs) else none)->∃vs,u= .tuple vs/\HV.length=vs.length/\l' =dJ l HV vs:=λHV e h k=>by
  have bad:(∀vs,u≠ .tuple vs)->kC l HV u=none:=λz=>by
   cases HV with
   |nil=>cases u with
    |tuple vs=>exact absurd rfl (z vs)
    |_=>rfl
   |cons i r=>cases r with
    |nil=>exact absurd rfl h
    |cons j r=>cases u with
     |tuple vs=>exact absurd rfl (z vs)
     |_=>rfl
  by_cases q:∃vs,u= .tuple vs
  ·obtain ⟨vs,q⟩:=q
   rw [k vs q] at e
   split at e
   ·exact ⟨vs,q,‹_›,(cq e).symm⟩
   ·exact fh e
  ·rw [bad λvs z=>q ⟨vs,z⟩] at e;exact fh e
 refine two is e h λvs q=> ?_
 subst q
 cases is with
 |nil=>rfl
 |cons i r=>cases r with
  |nil=>exact absurd rfl h
  |cons j r=>rfl
section
variable {c:Cx}{d n k:Nat}{m:Str->Option Value}{ac:ao}{ah:dN}{H:HP}{s:Shared}{v:CV}{l:cR}{A:Around}{E:Value->Shared->Prop}
theorem aV.grown (hn:aV c m ac ah H s){t:Nat}(hk:∀b o,s.heap.get? b=some o->h'.get? b=some o):aV c m ac ah H {s with heap:=h',toks:=t}:=by
 obtain ⟨⟨g,T,F,N⟩,nd,hr,ce,sh⟩:=hn
 exact ⟨⟨g,T,F.keeps hk,N.keeps hk⟩,nd,hr,ce,sh⟩
set_option tactic.hygienic true in
theorem vY (ok:c.Ok d)(V:su c v)(h:CN v es is):∀{vs:List SV} {rs:List Value} {l:cR} {m:Str->Option Value} {ac:ao} {s:Shared} {Q:Unit->Shared->Prop},aI ac ah vs rs->is.length=vs.length->aV c m ac ah H s->bC c v l m ac ah->
  (∀m' az s',aV c m' az ah H s'->br c.X ac ah az ah->bC c v (dJ l is vs) m' az ah->Q () s')->wpAny (model c.prog c.w) A (assignInOrder (es.map λt=>assign t c.env) rs) Q E s:=by
 induction h with
 |nil=>
  intro vs rs l m ac s Q hv hl hn hL q
  cases hv with
  |nil=>exact bu (q m ac s hn br.refl hL)
  |cons _ _=>exact OE hl
 |cons x p i es is hx t ih=>
  intro vs rs l m ac s Q hv hl hn hL q
  cases hv with
  |nil=>exact UQ hl
  |cons h1 h2=>
   rename_i u ru us ZE
   refine ar (wpAny_holding (show wpAny _ _ (do standAt p;bindName c.env x ru) _ _ _ from ar (wpAny_standAt (jE ok V hn hL hx h1 λm' az s' jf X' FN=> ?_))))
   exact ih (h2.ext X') (Nat.succ.inj hl) jf FN λm2 n2 s2 fI X2 un=>q m2 n2 s2 fI (X'.trans X2) un
theorem xE (ok:c.Ok d)(V:su c v)(hh:A.handled=none)(hn:aV c m ac ah H s)(hL:bC c v l m ac ah){kk p}(hc:CN v es is)(hu:av ac ah (.tuple vs) ru)(hl:is.length=vs.length)
  (q:∀m' az s',aV c m' az ah H s'->br c.X ac ah az ah->bC c v (dJ l is vs) m' az ah->Q () s'):wpAny (model c.prog c.w) A (assign (.Tuple es kk p) c.env ru) Q E s:=by
 refine xM (cT hu) λaC a de hm nH wb=> ?_;subst de
 obtain ⟨xs,hx⟩:=hc.YW
 refine rm (hx.each (env:=c.env)) λa1 a2 a3=> ?_
 have hT:IsTup s.heap a aC.toArray:=⟨_,hn.addr hm,rfl,_,rfl⟩
 refine assign_Tuple_tuple hh hT (by rw [a1,List.size_toArray,<-nH.length,<-hl,hc.len]) a2 λh' he=> ?_
 rw [a3]
 exact vY ok V hc nH hl (hn.grown (t:=s.toks) λb o e=>he b o (cW (Heap.lt_size e)) e) hL q
theorem M0 (ok:c.Ok d)(V:su c v)(hh:A.handled=none)(hn:aV c m ac ah H s)(hL:bC c v l m ac ah)(hc:CT v t is)(hu:av ac ah u ru)(hb:kC l is u=some l')
  (q:∀m' az s',aV c m' az ah H s'->br c.X ac ah az ah->bC c v l' m' az ah->Q () s'):wpAny (model c.prog c.w) A (assign t c.env ru) Q E s:=by
 cases hc with
 |name x p i hx=>
  cases hb
  exact ar (wpAny_standAt (jE ok V hn hL hx hu q))
 |tup es k p is h1 h2=>
  refine mF (Cq (h2.len▸h1) hb) λvs gP hl wN=> ?_;subst gP;subst wN
  exact xE ok V hh hn hL h2 hu hl q
theorem bC.back (nd:(ac.map (·.1)).Nodup)(hm:(it,o)∈ac)(hd:∀x,o.data≠ .cell x)(hs:dV o=false)(h:bC c v l m ac ah):bC c v l m (eE it ac) ah:=by
 have X:br [it] ac ah (eE it ac) ah:=⟨⟨[],(ch _).symm⟩,λp hp q=>bz.mpr ⟨hp,λe=>by
  have:p.2=o:=fc (a:=it) nd (by rw [<-e];exact hp) hm
  rw [this,hs] at q;exact xh q⟩,λp hp q z=>bz.mpr ⟨hp,λe=>z (by rw [e];simp)⟩⟩
 refine ⟨λy i val h1 h2 h3=>let ⟨rv,a,b⟩:=h.loc y i val h1 h2 h3;⟨rv,a,b.ext X⟩,λy i val h1 h2 h3=> ?_⟩
 refine HW (h.Jf y i val h1 h2 h3) λa ob rv a1 a2 a3 a4=> ?_
 refine ⟨a,ob,rv,a1,bz.mpr ⟨a2,λe=> ?_⟩,a3,a4.ext X⟩
 have:ob=o:=fc (a:=it) nd (by rw [<-(show a=it from e)];exact a2) hm
 exact hd _ (this▸a3)
end
noncomputable def N8 (Q:Flow->Shared->Prop):Result->Shared->Prop:=λr s' =>match r with
 | .ok f=>Q f s'
 | .error _=>False
section
variable {M:Model}{A:Around}{E:Value->Shared->Prop}{s:Shared}{env:Env}
theorem AU (tz:sd c=true)(hc:fe M A c (N8 Q) s):aG M A (runOwn c env none) Q E s:=by
 unfold runOwn
 refine gk (Iv tz (nU hc λr s' z=> ?_) (by intro x;exact mZ x))
 cases r with
 |ok f=>exact z
 |error e=>exact z.elim
theorem RB (hs:stop it=false)
  (h:aG M A (eval it env) (λx s₁=>aG M A (pyIter x) (λi s₂=>fe M A (.forLoop t i b [] env) (N8 Q) s₂) E s₁) E s):aG M A (exec (.For t it b [] pos) env) Q E s:=by
 rw [arm_exec_For]
 refine ag (aB (ag (aA h λx s₁ h₁=> ?_)))
 rw [(pl it).fold hs]
 refine ag (aq ?_)
 refine ag (aB (ag (aD (aA h₁ λi s₂ h₂=>AU rfl h₂))))
theorem ME (h:fe M A (.whileLoop t b [] env) (N8 Q) s):aG M A (exec (.While t b [] pos) env) Q E s:=by
 rw [arm_exec_While]
 exact ag (aB (AU rfl h))
end
section
variable {c:Cx}{d n k:Nat}{m:Str->Option Value}{ac:ao}{ah:dN}{H:HP}{s:Shared}{v:CV}{l:cR}{A:Around}{E:Value->Shared->Prop}
theorem xd (hn:aV c m ac ah H s)(hi:jo ac ah x j it)(q:Q () s):wpAny (model c.prog c.w) A (letOwnedTupleGo t (.ref it) y) Q E s:=by
 have key:∀o:Obj,(it,o)∈ac->∀n vs,o.cls= .type n->o.data= .fields vs->["enumerate", "zip", "dict_itemiterator", "dict_reverseitemiterator", "odict_iterator", "itertools.zip_longest", "itertools.pairwise"].contains n=false->
   wpAny (model c.prog c.w) A (do
  let (.ref r, .ref a):=((.ref it:Value),y)|return
  let o<-load r
  match o.cls,o.data with
  | .type n, .fields vs=>
   if ["enumerate", "zip", "dict_itemiterator", "dict_reverseitemiterator", "odict_iterator", "itertools.zip_longest", "itertools.pairwise"].contains n&&vs[0]? ==some (rawInt a) then
    rule "for.unpacks-the-owned-tuple"
    updateField r 0 .none
  |_,_=>pure ()) Q E s:=λo hm n vs hc hd Nc=>by
  cases y with
  |ref a=>
   refine ar (wpAny_load (hn.addr hm) ?_)
   rw [hc,hd]
   dsimp only
   rw [Nc]
   exact bu q
  |_=>exact bu q
 have all:∃(o:Obj) (n:String) (vs:Array Value),(it,o)∈ac/\o.cls= .type n/\o.data= .fields vs/\ ["enumerate", "zip", "dict_itemiterator", "dict_reverseitemiterator", "odict_iterator", "itertools.zip_longest", "itertools.pairwise"].contains n=false:=by
  cases hi with
  |list _ hm hc hd=>exact ⟨_,_,_,hm,hc,hd,by decide+kernel⟩
  |range hm ho _ _=>subst ho;exact ⟨_,_,_,hm,rfl,rfl,by decide+kernel⟩
  |bytes _ hm hc hd=>exact ⟨_,_,_,hm,hc,hd,by decide+kernel⟩
 refine HW all λo nn vs hm hc hd Nc=> ?_;clear all
 unfold letOwnedTupleGo
 cases t<;>first|exact bu q|exact key o hm nn vs hc hd Nc
theorem br.drop {X:List Addr}{l0:dN}(x:br X n0 l0 (eE it ac) ah):br X n0 l0 ac ah:=⟨x.ah,λp h q=>(bz.mp (x.sP p h q)).1,λp h q z=>(bz.mp (x.cell p h q z)).1⟩
theorem br.sY {X:List Addr}{l0:dN}(x0:br X n0 l0 (eE it ac) ah)(x:br (it::X) ac ah n' l'):br X n0 l0 (eE it n') l' :=by
 obtain ⟨⟨m1,e1⟩,s1,c1⟩:=x0
 obtain ⟨⟨m2,e2⟩,s2,c2⟩:=x
 refine ⟨⟨m1++m2,by rw [e2,e1,bX]⟩,λp h q=> ?_,λp h q z=> ?_⟩
 ·obtain ⟨a,b⟩:=bz.mp (s1 p h q)
  exact bz.mpr ⟨s2 p a q,b⟩
 ·obtain ⟨a,b⟩:=bz.mp (c1 p h q z)
  exact bz.mpr ⟨c2 p a q (by simp [b,z]),b⟩
theorem CJ:A.under (.forLoop t i b o env)=A:=Around.under_of_weight rfl
theorem xT:A.under (.whileLoop t b o env)=A:=Around.under_of_weight rfl
theorem y5:A.under (.block b env)=A:=Around.under_of_weight rfl
theorem CU {R:Result->Shared->Prop}(h:R (.ok .next) s):fe (model prog w) A (.block [] env) R s:=by
 refine dI ?_
 rw [y5]
 show aG _ A (do return Fin.done (<-(execs [] env).onRaise (λx=>do noteFrame x env;theTreesLotGoes x))) _ _ s
 exact ag (gk (Kd (aq h)))
noncomputable abbrev t7 (c:Cx)(v:CV)(A:Around)(b:List Stmt)(f:cR->HP->cQ):Prop:=
 ∀{l:cR} {m:Str->Option Value} {ac:ao} {ah:dN} {H:HP} {s:Shared} {Q:Flow->Shared->Prop} {E:Value->Shared->Prop},aV c m ac ah H s->bC c v l m ac ah->bv c v ac ah (f l H) Q E->aG (model c.prog c.w) A (execs b c.env) Q E s
theorem tm (ok:c.Ok d)(V:su c v)(hh:A.handled=none)(hc:CT v t is)(hb:t7 c v A b f)(hit:it∉c.X){l0:dN}:
  ∀(N j:Nat) {l:cR} {m:Str->Option Value} {ac:ao} {ah:dN} {H:HP} {s:Shared},aV c m ac ah H s->bC c v l m ac ah->jo ac ah x j it->br c.X n0 l0 (eE it ac) ah->bv c v n0 l0 (forLoop is f x N j l H) Q E->
   fe (model c.prog c.w) A (.forLoop t (.ref it) b [] c.env) (N8 Q) s
 |0,j,l,m,ac,ah,H,s,hn,hL,hi,hX,h=>h.elim
 |N+1,j,l,m,ac,ah,H,s,hn,hL,hi,hX,h=>by
  refine dI ?_
  rw [CJ]
  show aG _ A ((forTurn t (.ref it) b [] c.env).onRaise (λx=>do noteFrame x c.env;theTreesLotGoes x)) _ _ s
  refine gk (gG (E:=λu8 u8=>False) ?_ (λu8 u8 z=>z) λu8 u8 z=>z.elim)
  unfold forTurn
  refine ag (aB ?_)
  cases e:cu x j H with
  |none=>rw [gu,e] at h;exact h.elim
  |some r=>
   refine J6 hi.obj λob HH K2 KZ MO=> ?_
   refine ag (gk (ap (wP hh hn hi e ?_)))
   cases r with
   |none=>
    rw [gu] at h
    rw [e] at h
    intro s' jf _
    exact aq ⟨rfl,rfl,CU (h _ _ _ _ jf hX (hL.back hn.nd HH MO KZ))⟩
   |some y=>
    rw [gu] at h
    rw [e] at h
    dsimp only at h
    intro n1 s1 ry cN _ _ X1 I4 vy
    cases eb:kC l is y with
    |none=>rw [eb] at h;exact h.elim
    |some l1=>
     rw [eb] at h
     dsimp only at h
     have kO:bC c v l m n1 ah:=⟨λy i val h1 h2 h3=>let ⟨rv,a,b⟩:=hL.loc y i val h1 h2 h3;⟨rv,a,b.ext X1⟩,λy i val h1 h2 h3=>by
      refine HW (hL.Jf y i val h1 h2 h3) λa o rv a1 a2 a3 a4=> ?_
      exact ⟨a,o,rv,a1,X1.cell _ a2 (kg a3) (by
       intro q
       rw [List.mem_singleton] at q
       exact hit (q▸List.mem_map.mpr ⟨_,eL a1,rfl⟩)),a3,a4.ext X1⟩⟩
     have NR:br c.X n0 l0 (eE it n1) ah:=hX.sY (X1.mono (by simp))
     refine ag (ap (xd cN I4 ?_))
     refine ag (ap (M0 ok V hh cN kO hc vy eb λm2 n2 s2 fI X2 un=> ?_))
     have Vl:=I4.ext X2 hit
     have Si:br c.X n0 l0 (eE it n2) ah:=NR.sY (X2.mono (by simp+contextual))
     cases eo:f l1 H with
     |next l3 H3=>
      rw [eo] at h
      refine ag (hb fI un (by rw [eo];exact λm3 n3 y3 s3 rZ X3 FY=>aq ⟨rfl,rfl,tm ok V hh hc hb hit N (j+1) rZ FY (Vl.ext X3 hit) (Si.sY (X3.mono (by simp+contextual))) h⟩))
     |cont l3 H3=>
      rw [eo] at h
      refine ag (hb fI un (by rw [eo];exact λm3 n3 y3 s3 rZ X3 FY=>aq ⟨rfl,rfl,tm ok V hh hc hb hit N (j+1) rZ FY (Vl.ext X3 hit) (Si.sY (X3.mono (by simp+contextual))) h⟩))
     |ret z H3=>
      rw [eo] at h
      refine ag (hb fI un (by rw [eo];exact λm3 n3 y3 s3 rz rZ X3 v3=>aq (h m3 n3 y3 s3 rz rZ ((Si.sY (X3.mono (by simp+contextual))).drop) v3)))
     |exc _ _ _=>rw [eo] at h;exact h.elim
     |jw _ _=>rw [eo] at h;exact h.elim
     |bad=>rw [eo] at h;exact h.elim
end
section
variable {c:Cx}{d n k:Nat}{m:Str->Option Value}{ac:ao}{ah:dN}{H:HP}{s:Shared}{v:CV}{l:cR}{A:Around}{E:Value->Shared->Prop}{R:au}
theorem rc (h:∀pos,wpAny M A (eval (.Name x pos) env) Q E s)(hd:(x==("__debug__":Str))=false):wpAny M A (loadName env x) Q E s:=λΓ p hΓ=>by
 have z:=h p Γ p hΓ
 rw [eval_Name env x p hd,Sem.wp_bind',Sem.wp_cmd_standAt] at z
 exact z
noncomputable def tE:wm->Bool
 | .add=>true| .bor=>true| .shr=>true| .sub=>false| .mul=>false| .fdiv=>false| .mod=>false| .band=>false| .shl=>false
set_option tactic.hygienic true in
theorem QD (hn:aV c m ac ah H s)(ho:tE op=true)(h:bw av c m ac ah (cE op (.int i) (.int j) H) Q E):aG (model c.prog c.w) A (inplaceOp (lI op) (.int i t) (.int j u)) Q E s:=by
 unfold cE at h
 cases op with
 |add=>exact ap (PyProof.Rows.iadd_int (h _ _ _ _ (hn.toks _) br.refl (.int _ _)))
 |bor=>exact ap (PyProof.Rows.ior_int (h _ _ _ _ (hn.toks _) br.refl (.int _ _)))
 |shr=>
  dsimp only at h
  split at h
  ·rename_i hz
   refine ap (PyProof.Rows.irshift_int hz.1 ?_)
   rw [uc (pow_pos _)]
   exact h _ _ _ _ (hn.toks _) br.refl (.int _ _)
  ·exact h.elim
 |_=>cases ho
theorem QX (h:cE op (.int i) (.int j) H= .ok x H'):H' =H:=by
 unfold cE at h
 cases op<;>dsimp only at h<;>(first|(cases h;rfl)|(split at h<;>cases h;rfl))
theorem tG (ok:c.Ok d)(hb:t7 c v A b f)
  (ht:∀{l:cR} {m:Str->Option Value} {ac:ao} {ah:dN} {H:HP} {s:Shared} {Q:Bool->Shared->Prop} {E:Value->Shared->Prop},aV c m ac ah H s->bC c v l m ac ah->bw yu c m ac ah (ft l H) Q E->aG (model c.prog c.w) A (isTrue t c.env (eval t c.env)) Q E s)
  {l0:dN}:
  ∀(N:Nat) {l:cR} {m:Str->Option Value} {ac:ao} {ah:dN} {H:HP} {s:Shared},aV c m ac ah H s->bC c v l m ac ah->br c.X n0 l0 ac ah->bv c v n0 l0 (whileLoop ft f N l H) Q E->
   fe (model c.prog c.w) A (.whileLoop t b [] c.env) (N8 Q) s
 |0,l,m,ac,ah,H,s,hn,hL,hX,h=>h.elim
 |N+1,l,m,ac,ah,H,s,hn,hL,hX,h=>by
  refine dI ?_
  rw [xT]
  show aG _ A ((whileTurn t b [] c.env).onRaise (λx=>do noteFrame x c.env;theTreesLotGoes x)) _ _ s
  refine gk (gG (E:=λu8 u8=>False) ?_ (λu8 u8 z=>z) λu8 u8 z=>z.elim)
  unfold whileTurn
  rw [yS] at h
  cases et:ft l H with
  |ok bb H1=>
   rw [et] at h
   refine ag (ht hn hL (by
    rw [et]
    intro n1 l1 s1 rb cN X1 v1
    cases v1
    cases bb with
    |false=>
     show aG _ _ (do return Fin.done (<-execs [] c.env)) _ _ _
     exact ag (Kd (aq (h _ _ _ _ cN (hX.trans X1.wide) (hL.ext X1))))
    |true=>
     dsimp only at h
     show aG _ _ (do match<-execs b c.env with| .next| .cont=>again (.whileLoop t b [] c.env)| .brk=>pure (.done .next)| .ret v=>pure (.done (.ret v))) _ _ _
     cases eo:f l H1 with
     |next l3 H3=>
      rw [eo] at h
      refine ag (hb cN (hL.ext X1) (by rw [eo];exact λm3 n3 y3 s3 rZ X3 FY=>aq ⟨rfl,rfl,tG ok hb ht N rZ FY ((hX.trans X1.wide).trans X3) h⟩))
     |cont _ _=>rw [eo] at h;exact h.elim
     |ret _ _=>rw [eo] at h;exact h.elim
     |exc _ _ _=>rw [eo] at h;exact h.elim
     |jw _ _=>rw [eo] at h;exact h.elim
     |bad=>rw [eo] at h;exact h.elim))
  |exc _ _=>rw [et] at h;exact h.elim
  |bad=>rw [et] at h;exact h.elim
end
noncomputable abbrev O3:List Value:= [.type "Exception", .type "BaseException", .type "object"]
noncomputable def i8 (K:Frag)(C:Addr):Bool:=ktsIn K C "BaseException"&&excIn K C O3 "Exception.__new__"&&keepIn K (.ref C)
section
variable {c:Cx}{d n k:Nat}{m:Str->Option Value}{ac:ao}{ah:dN}{H:HP}{s:Shared}{v:CV}{l:cR}{A:Around}{E:Value->Shared->Prop}{R:au}
theorem Cx.Ok.sA (ok:c.Ok d)(T:KtsTurn c.fs c.g₀ g):Below c.A₀ c.base c.outer g:=⟨ok.below.stack,ok.stays T,ok.below.frames.of_keeps λb o e u8=>by
 obtain ⟨sl,hs⟩:=T.up e
 exact ⟨_,hs,rfl⟩⟩
theorem p9 (h0:c.cl= []):c.env=envOf c.cn c.cs c.L c.a c.cd:=by unfold Cx.env;rw [h0];rfl
theorem Ap (ok:c.Ok d)(h0:c.cl= []){kk:Nat}{t:Nat}(hn:aV c m ac ah H s)(hx:Heap.MadeExcOf s.heap h' e (.ref (c.S.dD kk)) vs):f7 c kk ac (.ref e) {s with heap:=h',toks:=t}:=by
 unfold f7 Cx.A
 rw [p9 h0]
 refine hn.gE λg T F N=> ?_
 have hP:c.S.HQ kk=false->ec e h' :=λu8=>by
  refine aZ hx.there λt ht u8=> ?_
  exact ⟨_,_,ht,rfl,rfl⟩
 refine wpAny_mono (jp (l9 pi) hP (leave_raiseS (Q:=λu8 s' =>∃t g',KtsTurn c.fs c.g₀ g' /\RaisedS c.base g' c.outer e (.ref (c.S.dD kk)) t vs ac s'.heap/\g'.UpToSlots s'.heap/\(s'.gens=c.gens/\s'.drawn=c.drawn/\s'.os=c.os)) (ok.sA T) hx F N (λh2 t R u8 U=>⟨t,g,T,R,U,hn.sh⟩) ok.kind)) (λu8 s' z=> ?_) λu8 u8 z=>z.1
 obtain ⟨⟨t,g',a1,a2,a3,a4⟩,a5⟩:=z
 exact ⟨e,t,vs,g',rfl,a1,a2,a3,a4,a5⟩
theorem FR (ok:c.Ok d)(h0:c.cl= []){kk:Nat}{ev:Value}(hx:CI c ac ah H s)(h:kG c m kk ac ev s):f7 c kk ac ev s:=by
 unfold f7 Cx.A
 obtain ⟨e,t,vs,G,rfl,R,U,⟨g,T,F⟩,hP⟩:=h
 rw [p9 h0] at R⊢
 refine wpAny_mono (jp (l9 pi) hP (leave_onS (Q:=λu8 s' =>RaisedS c.base g c.outer e (.ref (c.S.dD kk)) t vs ac s'.heap/\g.UpToSlots s'.heap/\(s'.gens=c.gens/\s'.drawn=c.drawn/\s'.os=c.os)) (ok.sA T) F R U λh2 R2 u8 U2=>⟨R2,U2,hx.sh⟩)) (λu8 s' z=> ?_) λu8 u8 z=>z.1
 obtain ⟨⟨a1,a2,a3⟩,a5⟩:=z
 exact ⟨e,t,vs,g,rfl,T,a1,a2,a3,a5⟩
theorem ym (O:OwnCls x C Y0 newId mg h){G:Prop}
  (K:∀bm N nm q bs FZ sn sub ab col dd k0 k1 k2 k3 k5 mN,h.get? C=some (excClassObj nm q C N bs bm FZ sn sub ab col dd k0 k1 k2 k3 k5 newId)->h.Ns N mN->mN "__init__"=none->OwnTail h Y0 bm->G):G:=by
 obtain ⟨bm,N,nm,q,bs,FZ,sn,sub,ab,col,dd,k0,k1,k2,k3,k5,mN,hC,hN,PM,Tl⟩:=O.obj
 exact K _ _ _ _ _ _ _ _ _ _ _ _ _ _ _ _ _ hC hN PM Tl
theorem B2 (ok:c.Ok d)(hh:A.handled=none)(hC:i8 c.K C=true)(T:KtsTurn c.fs c.g₀ g)(hx:nsIn c.K mainGlobals x=some (some (.ref C)))(hl:rs.length<=100)(F:Fr g c.L s.heap m)
  (q:∀h' e,Heap.MadeExcOf s.heap h' e (.ref C) rs->(∀{Q' :Flow->Shared->Prop} {E' :Value->Shared->Prop} {env:Env},E' (.ref e) {s with heap:=h' }->wpAny (model c.prog c.w) A (raiseStmt env (some (pure (.ref e))) none) Q' E' {s with heap:=h' })->Q (.ref e) {s with heap:=h' }):
  wpAny (model c.prog c.w) A (call (.ref C) rs) Q E s:=by
 unfold i8 at hC
 simp only [Bool.and_eq_true] at hC
 obtain ⟨⟨c1,c2⟩,c3⟩:=hC
 have O:=own_of_in (x:=x) (ok.qn T) (ok.C6 T) hx c2
 refine ym O λbm N nm q' bs FZ sn sub ab col dd k0 k1 k2 k3 k5 mN hC hN PM Tl=> ?_
 obtain ⟨Pn,gg,d',tk,os⟩:=s
 have F' :Fr g c.L Pn m:=F
 refine wpAny_call_exc_subT (hrest:=by rw [eT];exact lA ‹_› rfl) PySem.F.excBase_Exception (Tl.keeps F'.keep) (F'.keep _ _ hC) (hN.keeps F'.keep) PM λh' e hm=>q h' e hm λ{Q' E' env} hE=> ?_
 refine mF hm.there λt ht u8 u8=> ?_
 exact wpAny_raiseStmt_made_sub (Tl.hasType PySem.F.excBase_Exception.hasBase) hh (bu ⟨e,t,rfl,hm.keeps _ _ (F'.keep _ _ hC),ht,hE⟩)
theorem zV (ok:c.Ok d)(RS:d5 c n R)(hA:lM c n (k+1) A)(V:su c v)(h0:c.cl= []){kk:Nat}(hC:i8 c.K (c.S.dD kk)=true)(hg:eg v x=true)(hl:c.S.glob.lookup x=some (.cls kk))(cI:stop m' =false)(hc:Ck c.S v m' e)
  (hn:aV c m ac ah H s) (hL:bC c v l m ac ah) (h:bv c v ac ah ((bj c.P R e l H).then l λv H=>match v with| .text=> .jw kk H|_=> .bad) Q E):
  aG (model c.prog c.w) A (exec (.Raise (some (.Call (.Name x np) [m'] [] zw)) none pos) c.env) Q E s:=by
 rw [arm_exec_Raise]
 refine ag (aB ?_)
 show aG _ A ((do let v<-eval (.Call (.Name x np) [m'] [] zw) c.env;standAt pos;pure v)>>=λw=>raiseStmt c.env (some (pure w)) none) Q E s
 have he:=ez ok V hL
 have a:=ok.mM.EP _ _ hl
 refine ag (ag (uX (ap (he.Ng _ _ hg a _ _ _ _ _ _ _ _ hn ?_))))
 refine pW (by cases m' <;>first|rfl|(cases cI;done)) ?_
 refine yI (by cases m' <;>first|rfl|(cases cI;done)) (f9 ok RS e m' hc hA he hn (bv.then hL h λy H1 n1 l1 s1 ry cN X1 kO v1 h1=> ?_))
 refine Bb ?_
 cases v1 with
 |text tx tt=>
  refine cN.gE λg T F N=> ?_
  have c3:keepIn c.K (.ref (c.S.dD kk))=true:=by
   have z:=hC
   unfold i8 at z
   simp only [Bool.and_eq_true] at z
   exact z.2
  refine ⟨rU ok c3 _ _ _ _ cN,ap (B2 ok hA.hand hC T a (by simp) F λh' ex hm hr=> ?_)⟩
  refine ag (aB (aq (ap (hr ?_))))
  exact h1 _ _ _ _ ⟨cN.nd,cN.hr⟩ br.refl (Ap (t:=s1.toks) ok h0 cN hm)
 |_=>exact h1.elim
end
section
variable {c:Cx}{d n k:Nat}{m:Str->Option Value}{ac:ao}{ah:dN}{H:HP}{s:Shared}{v:CV}{l:cR}{A:Around}{E:Value->Shared->Prop}{R:au}
theorem sH (hm:b∈(c.env::c.outer).filterMap (·.frame)):b=c.L∨b∈c.fs:=by
 refine aZ (List.mem_filterMap.mp hm) λenv he hf=> ?_
 rcases cH he with rfl|he
 ·exact .inl (cq hf).symm
 ·exact .inr (List.mem_filterMap.mpr ⟨env,he,hf⟩)
theorem vt (ok:c.Ok d){g G B h' :Heap}(T0:KtsTurn c.fs c.g₀ g)(F:Fr g c.L G m)(QV:∀b o,G.get? b=some o->b∉(c.env::c.outer).filterMap (·.frame)->B.get? b=some o)(Tf:B.StaysIn h')(KW:G.UpToSlots h'):
  ∃g',KtsTurn c.fs g g' /\Fr g' c.L h' m:=by
 have K:=ok.sA T0
 obtain ⟨T,S⟩:=kts_turn_at (h:=h') (fs:=c.fs) (g:=g)
  (λb hb=>by
   obtain ⟨_,o,ho,_⟩:=K.frames.mem hb
   exact ⟨o,ho⟩)
  (λb o e nm=>Tf b o (QV b o (F.keep b o e) (λhm=>by
   rcases sH hm with z|z
   ·rw [z,kts_self F] at e
    exact mZ e
   ·exact nm z)))
  (λb o e hm=>by
   obtain ⟨_,o',sK,hd⟩:=K.frames.mem hm
   rw [e] at sK
   cases sK
   exact KW b o (F.keep b o e) hd)
 exact ⟨_,T,⟨KW.ns F.ns,S,by rw [T.size];exact F.above⟩⟩
theorem WI (ok:c.Ok d)(hB:c.base.StaysIn B)(Tf:B.StaysIn h'):c.K.In h' :=ok.Jb.keeps λb o e=>Tf b o (hB b o e)
theorem Ca (ok:c.Ok d)(YM:A.frames=some (c.env::c.outer)){kk:Nat}{ev:Value}(hx:CI c ac ah H s)(hr:kG c m kk ac ev s)(hC:i8 c.K (c.S.dD kk)=true)(hg:c.cs.names.lookup x=some .globalImplicit)(Rx:(x==("__debug__":Str))=false)
  (u5:nsIn c.K mainGlobals x=some (some (.ref (c.S.dD kk)))) {np pos:Pos}
  (q:∀e h',ev= .ref e->(c.S.HQ kk=false->ec e h')->aV c m ac ah H {s with heap:=h' }->wpAny (model c.prog c.w) (A.mark (some (.ref e))) (execs (b₀::OQ) c.env) Q (notedBy (model c.prog c.w) (A.mark (some (.ref e))) c.env (cameBackBy (model c.prog c.w) A c.env E)) {s with heap:=h' }):
  wpAny (model c.prog c.w) A (noteFrame ev c.env) (λu8 s₂=>wpAny (model c.prog c.w) A (setFlight ev none) (λu8 s₃=>
    wpAny (model c.prog c.w) A (handleBy ev c.env (.ExceptHandler (some (.Name x np)) none (b₀::OQ) pos::aH)) Q E s₃) E s₂) E s:=by
 refine cps λZ zz=> ?_
 obtain ⟨e,t,vs,G,rfl,⟨⟨B,hB,QV,hl,UA,uj⟩,Wp⟩,KW,⟨g,T0,F⟩,hP⟩:=hr
 unfold i8 at hC
 simp only [Bool.and_eq_true] at hC
 obtain ⟨⟨qk,_⟩,_⟩:=hC
 have hL:B.get? c.L=none:=by
  obtain ⟨_,⟨L',_,hf,jf,_⟩,_⟩:=UA.2.2.1
  obtain rfl:c.L=L' :=cq hf
  exact jf
 refine zz (wpAny_mono (jp (l9 lP) hP (wpAny_looks_onW (Q:=λu8 s' =>∃h₄,s' ={s with heap:=h₄}/\Heap.HeldW B (c.env::c.outer) e (.ref (c.S.dD kk)) (.ref t) c.L h₄/\s.heap.UpToSlots h₄) (E:=λu8 u8=>False) YM (L:=c.L) rfl UA λh₄ a b=>⟨h₄,rfl,a,b⟩)) (λu8 s₄ z=> ?_) λu8 u8 z=>z.1.elim)
 clear zz
 refine cps λZ zz=> ?_
 obtain ⟨⟨h₄,rfl,Es,Mu⟩,NP⟩:=z
 refine zz (wpAny_mono (jp (l9 jC) NP (wpAny_landsW (Q:=λu8 s' =>∃h₅,s' ={s with heap:=h₅}/\Heap.FlyingW B (c.env::c.outer) e (.ref (c.S.dD kk)) (.ref t) h₅/\h₄.UpToSlots h₅) (E:=λu8 u8=>False) Es λh₅ a b=>⟨h₅,rfl,a,b⟩)) (λu8 s₅ z=> ?_) λu8 u8 z=>z.1.elim)
 clear zz
 refine cps λZ zz=> ?_
 obtain ⟨⟨h₅,rfl,GN,JU⟩,Ps⟩:=z
 have GY:=Mu.trans JU
 refine aZ (vt ok T0 F QV GN.1 (KW.trans GY)) λg₅ T₅ F₅=> ?_
 refine aZ GN.there λob JW Sy=> ?_
 have T5:=T0.trans T₅
 obtain ⟨nm,q',N,bs,bm,FZ,sn,sub,ab,col,dd,k0,k1,k2,k3,k5,newId,Pf,NT,Zp⟩:=kts_cls (ok.qn T5) qk
 have NZ:=F₅.keep _ _ Pf
 refine zz (wpAny_handleBy_cons (codeAny_handlers_test (nameX_K F₅ (ok.qn T5) (ok.C6 T5) u5 ?_ ok.kind hg Rx)) (by intro z;cases z))
 clear zz
 refine wpAny_excMatches_sub_self NZ JW Sy NT (codeAny_handlers_suite ?_)
 refine wpAny_mono (jp (l9 jC) Ps (lands_againW (Q:=λu8 s' =>∃h₆,s' ={s with heap:=h₆}/\Heap.FlyingW B (c.env::c.outer) e (.ref (c.S.dD kk)) (.ref t) h₆/\h₅.UpToSlots h₆) (E:=λu8 u8=>False) GN λh₆ a b=>⟨h₆,rfl,a,b⟩)) (λu8 s₆ z=> ?_) λu8 u8 z=>z.1.elim
 obtain ⟨⟨h₆,rfl,Ht,M5⟩,Pz⟩:=z
 obtain ⟨g₆,T₆,F₆⟩:=vt ok T0 F QV Ht.1 ((KW.trans GY).trans M5)
 refine q e h₆ rfl Pz ⟨⟨g₆,T0.trans T₆,F₆,λp hp=> ?_⟩,hx.nd,hx.hr,hx.cells,hx.sh⟩
 exact ⟨Ht.1 _ _ (hl p hp).1,(λz=>by have:=(hl p hp).1;rw [z,hL] at this;exact mZ this),T₆.none_ _ (kts_none F.keep (hl p hp).2.1)⟩
theorem S3 (lF:hs.isEmpty=false)
  (h:aG M A (execs b env) Q (λe s' =>aG M A (noteFrame e env) (λu8 s₂=>aG M A (setFlight e none) (λu8 s₃=>aG M A (handleBy e env hs) Q E s₃) E s₂) E s') s):aG M A (exec (.Try b hs [] [] pos) env) Q E s:=by
 rw [arm_exec_Try]
 refine ag (aB ?_)
 unfold tryStmt
 refine ag (xX (gG h (λf s₁ h₁=> ?_) λe s₁ h₁=> ?_))
 ·cases f with
  |next=>exact Kd h₁
  |_=>exact aq h₁
 ·refine ag (aA h₁ λu8 s₂ h₂=> ?_)
  rw [lF]
  exact ag (aA h₂ λu8 s₃ h₃=>h₃)
end
end Mine
set_option maxHeartbeats 2000000
namespace Mine
open PySem PySem.W PySem.Calls PyProof.Rows PySem.Spec
theorem ui:entryFor table "proto.unchain"=some Builtin.«proto.unchain»:=entryFor_of_tree (by kernel_rfl)
section
variable {prog:Program}{w:World}{A:Around}{E:Value->Shared->Prop}{s:Shared}
theorem yt (hh:A.handled=some (.ref f))(lF:f≠e)(hP:ec f s.heap)(he:s.heap.get? e=some oe)(hd:oe.data= .fields ws)(wU:2<ws.size)
  (hE:E (.ref e) {s with heap:=s.heap.update e (Obj.mapFields (·.setIfInBounds 2 (.ref f)))}):wpAny (model prog w) A (raiseNew (.ref e):Sem Flow) Q E s:=by
 refine jX hP λof vs f1 f2 f3=> ?_;clear hP
 unfold raiseNew
 refine ar (wpAny_handled ?_)
 rw [hh]
 dsimp only
 have hb:((Value.ref f) !=(Value.ref e))=true:=by simp [lF]
 rw [if_pos hb]
 refine ar (wpAny_holding (wpAny_runValue (codeAny_of_tree ?_)))
 show wpAny _ _ (match entryFor table "proto.unchain" with|some b=>b ⟨[.ref e, .ref f, .ref f, .bool false], []⟩|none=>unsupported ((withoutEnding? "proto.unchain" "#data").getD "proto.unchain")) _ _ s
 rw [ui]
 show wpAny _ _ (do
  let context<-field (.ref f) 2
  if context== .none then return<-ret .none
  if context==(.ref e) then
   rule "raise.context-cycle-cut"
   setField (.ref f) 2 .none
   return<-ret .none
  if context==(.ref f) then rule "raise.context-old-cycle";return<-ret .none
  let TP<-if false then field (.ref f) 2 else pure (.ref f)
  again (.builtin "proto.unchain" ⟨[.ref e,context,TP, .bool !false], []⟩)) _ _ s
 refine ar (wpAny_field f1 f2 f3 ?_)
 rw [if_pos (show ((Value.none==Value.none)=true) from rfl)]
 refine bu ?_
 show wpAny _ A (setField (.ref e) 2 (.ref f)>>=λu8=>throw (.ref e)) Q E s
 exact ar (wpAny_setField he hd wU (wpAny_throw hE))
end
section
variable {c:Cx}{d n k:Nat}{m:Str->Option Value}{ac:ao}{ah:dN}{H:HP}{s:Shared}{v:CV}{l:cR}{A:Around}{E:Value->Shared->Prop}
theorem CQ (ok:c.Ok d)(h0:c.cl= []){kk:Nat}{vs:List Value}{e t:Addr}{h' :Heap}{tk:Nat}(hn:aV c m ac ah H s)(hk:∀b o,s.heap.get? b=some o->h'.get? b=some o)(uj:s.heap.get? e=none){oe:Obj}{ws:Array Value}(he:h'.get? e=some oe)(hc:oe.cls= .ref (c.S.dD kk))
  (hd:oe.data= .fields ws) (w0:ws[0]? =some (.ref t)) (w1:ws[1]? =some .none) (Rq:s.heap.get? t=none) (ht:h'.get? t=some {cls:= .type "tuple",data:= .seq vs.toArray}) (TI:c.S.HQ kk=true):f7 c kk ac (.ref e) {s with heap:=h',toks:=tk}:=by
 unfold f7 Cx.A
 rw [p9 h0]
 refine hn.gE λg T F N=> ?_
 have K:=ok.sA T
 have K' :=K.push (name:=c.cn) (a:=c.a) (cd:=c.cd) F ok.kind
 have yM:∀env∈(PyProof.Rows.envOf c.cn c.cs c.L c.a c.cd::c.outer),∀b,env.frame=some b->b∈(PyProof.Rows.envOf c.cn c.cs c.L c.a c.cd::c.outer).filterMap (·.frame):=λenv he b hb=>List.mem_filterMap.mpr ⟨env,he,hb⟩
 have st:c.base.StaysIn (hideAll s.heap ((PyProof.Rows.envOf c.cn c.cs c.L c.a c.cd::c.outer).filterMap (·.frame))):=λb o q=>hideAll_get _ (K'.stays b o q) λhm=>by
  rw [(K'.frames.mem hm).1] at q;exact mZ q
 have sg:∀b o,g.get? b=some o->b∉c.outer.filterMap (·.frame)->(hideAll s.heap ((PyProof.Rows.envOf c.cn c.cs c.L c.a c.cd::c.outer).filterMap (·.frame))).get? b=some o:=λb o q nm=>hideAll_get _ (F.keep b o q) λhm=>by
  rcases kts_mem hm with z|z
  ·rw [z,kts_self F] at q
   exact mZ q
  ·exact nm z
 have hl:∀q∈ac,(hideAll s.heap ((PyProof.Rows.envOf c.cn c.cs c.L c.a c.cd::c.outer).filterMap (·.frame))).get? q.1=some q.2/\g.get? q.1=none/\c.base.get? q.1=none:=λq hq=>by
  refine ⟨hideAll_get _ (N q hq).1 λhm=> ?_,(N q hq).2.2,fresh_of_stays K.stays (N q hq).2.2⟩
  refine aZ (List.mem_filterMap.mp hm) λenv he hf=> ?_
  rcases cH he with rfl|he
  ·exact (N q hq).2.1 (cq hf).symm
  ·refine aZ ((K.frames.mem (List.mem_filterMap.mpr ⟨env,he,hf⟩)).2) λo ho u8=> ?_
   rw [(N q hq).2.2] at ho;exact mZ ho
 have fresh:∀b,s.heap.get? b=none->(hideAll s.heap ((PyProof.Rows.envOf c.cn c.cs c.L c.a c.cd::c.outer).filterMap (·.frame))).get? b=none:=λb hb=>by
  cases q:(hideAll s.heap ((PyProof.Rows.envOf c.cn c.cs c.L c.a c.cd::c.outer).filterMap (·.frame))).get? b with
  |none=>rfl
  |some o=>rw [of_hideAll _ q] at hb;exact GG hb
 refine wpAny_leaving_firstW (s:={s with heap:=h',toks:=tk}) (a0:= .ref t) K'.stack ((funFrames_hide K'.frames yM).of_keeps λb o hb u8=>⟨o,hk b o hb,rfl⟩) rfl he (λb o hb=>hk b o (of_hideAll _ hb)) (fresh e uj) hd w1 w0 λh3 hL=> ?_
 obtain ⟨k1,⟨_,_,k2⟩,k3,k4⟩:=hL
 rw [hc] at k3
 refine ⟨e,t,vs,g,rfl,T,⟨⟨_,st,sg,hl,⟨k1,fresh e uj,k2,k3⟩,fresh t Rq⟩,Heap.TupAt.of_slots ⟨_,_,ht,rfl,rfl⟩ k4⟩,((Heap.UpToSlots.of_keeps F.keep).trans (Heap.UpToSlots.of_keeps hk)).trans k4,hn.sh,λq=>by rw [TI] at q;exact B6 q⟩
theorem LN (ok:c.Ok d)(h0:c.cl= [])(hn:aV c m ac ah H s)(hP:ec e s.heap)(hC:i8 c.K (c.S.dD k')=true)(TI:c.S.HQ k' =true)(hx:c.cs.names.lookup x=some .globalImplicit)(Rx:(x==("__debug__":Str))=false)
  (u5:nsIn c.K mainGlobals x=some (some (.ref (c.S.dD k')))) {np cp pos zw:Pos} {kd:_} (q:∀ev s',LL c ac ah H->f7 c k' ac ev s'->E ev s') (hA:A=c.A):
  wpAny (model c.prog c.w) (A.mark (some (.ref e))) (execs [.Raise (some (.Call (.Name x np) [.Constant (.str txt) kd zw] [] cp)) none pos] c.env) Q (notedBy (model c.prog c.w) (A.mark (some (.ref e))) c.env (cameBackBy (model c.prog c.w) A c.env E)) s:=by
 have inner:wpAny (model c.prog c.w) (A.mark (some (.ref e))) (execs [.Raise (some (.Call (.Name x np) [.Constant (.str txt) kd zw] [] cp)) none pos] c.env) Q (λev s' =>wpAny (model c.prog c.w) A (leaving c.env ev) (λu8 oy=>JK c k' ac ev oy) (λu8 u8=>False) s') s:=by
  refine cps λG K=> ?_
  have Lf:=hC
  unfold i8 at Lf
  simp only [Bool.and_eq_true] at Lf
  obtain ⟨⟨c1,c2⟩,c3⟩:=Lf
  refine hn.gE λg T F N=> ?_
  have O:=own_of_in (x:=x) (ok.qn T) (ok.C6 T) u5 c2
  refine ym O λbm Nn nm q' bs FZ sn sub ab col dd k0 k1 k2 k3 k5 mN Pf hN PM Tl=> ?_
  refine K ?_
  clear K G
  refine wpAny_execs_cons ?_
  rw [arm_exec_Raise]
  refine ar (wpAny_standAt ?_)
  show wpAny _ _ ((do let v<-eval (.Call (.Name x np) [.Constant (.str txt) kd zw] [] cp) c.env;standAt pos;pure v)>>=λw=>raiseStmt c.env (some (pure w)) none) _ _ _
  refine ar (ar ?_)
  rw [arm_eval_Call_Name']
  refine ar (nameX_K F (ok.qn T) (ok.C6 T) u5 ?_ ok.kind hx Rx)
  obtain ⟨Pn,gg,d',tk,os⟩:=s
  have F' :Fr g c.L Pn m:=F
  have Lg:ec e Pn:=hP
  have YU:(Value.ref (c.S.dD k')::bm).contains (.type "BaseException")=true:=by rw [List.contains_cons,Tl.hasType PySem.F.excBase_Exception.hasBase,Bool.or_true]
  have D9:=(gy (env:=c.env) [.Constant (.str txt) kd zw] cp rfl).1
  unfold callWith
  refine ar (wpAny_holding ?_)
  rw [(pl _).star rfl] at D9⊢
  refine Calls.evalArgs_plain ?_
  show wpAny _ _ (do let v<-eval (.Constant (.str txt) kd zw) c.env;let here<-(pure [v]:Sem (List Value));return here++(<-holding here (pure []))) _ _ _
  refine ar (wpAny_Constant_str (ar (bu (ar (wpAny_holding (bu (bu ?_)))))))
  refine ar (wpAny_standAt ?_)
  simp only [D9]
  refine ar (wpAny_keeperOf_exc (F'.keep _ _ Pf) ?_)
  refine ar (wpAny_call_exc_subT (hrest:=by rw [eT];simp) PySem.F.excBase_Exception (Tl.keeps F'.keep) (F'.keep _ _ Pf) (hN.keeps F'.keep) PM λh' e2 hm=>ar (wpAny_holding (wpAny_point (bu ?_))))
  refine ar (wpAny_standAt (bu ?_))
  refine mF hm.there λt he Rq ht=> ?_
  have LP:=hm.keeps _ _ (F'.keep _ _ Pf)
  have lF:e≠e2:=λq=>by
   refine uz Lg λo u8 ho u8=> ?_;clear Lg
   have:=hm.new
   rw [<-q,ho] at this;exact GG this
  have QL:t≠e2:=λq=>by
   rw [q,he] at ht
   cases ht
  have Wo:ec e h' :=let ⟨o,vs,a,b,c⟩:=Lg;⟨o,vs,hm.keeps _ _ a,b,c⟩
  unfold raiseStmt
  refine ar (bu ?_)
  repeat (first|with_reducible refine wpAny_loadPart_at he ?_|with_reducible refine wpAny_loadPart_at LP ?_|(with_reducible refine wpAny_isSubtype_exc LP ?_;rw [YU])|wp_step)
  refine yt rfl lF Wo he rfl (by show 2<6;decide) ?_
  have Wm:aV c m ac ah H {heap:=Pn,gens:=gg,drawn:=d',toks:=tk,os:=os}:=hn
  have z:=CQ (tk:=tk+1) ok h0 Wm (h' :=h'.update e2 (Obj.mapFields (·.setIfInBounds 2 (.ref e)))) (e:=e2) (t:=t) (kk:=k') (λb o hb=>(Heap.get?_update_other _ _ (λq=>by
    have:=hm.new
    rw [q,hb] at this;exact GG this)).trans (hm.keeps b o hb)) hm.new (Heap.get?_update_self _ he rfl) rfl rfl rfl rfl Rq ((Heap.get?_update_other _ _ (Ne.symm QL)).trans ht) TI
  unfold f7 at z
  rw [<-hA] at z
  exact z
 refine wpAny_mono inner (λu8 u8 z=>z) λev s' z=> ?_
 have:=PassesOwnAt.leaving (M:=model c.prog c.w) (A:=A) (hd:=some (.ref e)) (env:=c.env) (Q₁:=λev oy=>JK c k' ac ev oy) (E₁:=λu8 u8=>False) ev s' z
 have fin:∀ev s2,cameBackBy (model c.prog c.w) A c.env (λe s' =>wpAny (model c.prog c.w) A (leaving c.env e) (λu8 oy=>JK c k' ac e oy) (λu8 u8=>False) s') ev s2->cameBackBy (model c.prog c.w) A c.env E ev s2:=λev s2 y=>
  wpAny_mono y (λu8 s3 y3=>q ev s3 ⟨hn.nd,hn.hr⟩ (by unfold f7;rw [<-hA];exact y3)) λTj s3 y3=>q Tj s3 ⟨hn.nd,hn.hr⟩ (by unfold f7;rw [<-hA];exact y3)
 exact wpAny_mono this (λu8 s2 y=>fin ev s2 y) λTj s2 y=>fin Tj s2 y
end
noncomputable def Bc (v:CV)(sc:Scope)(ts:List Str)(x:Str)(i:Nat):Bool:=
 (x !=("__debug__":Str))&&(x !=("__classdict__":Str))&&(if i<1000 then v.om.lookup x==some i&&sc.names.lookup x==some .free&&v.sc.names.lookup x==some .cell else ts[i - 1000]? ==some x&&sc.names.lookup x==some .local)
inductive Cp (v:CV)(sc:Scope)(ts:List Str):SE->Expr->Prop where
 |int (i k p):Cp v sc ts (.int i) (.Constant (.int i) k p)
 |bytes (b k p) (h:(b.map λc=>(c.toNat:Int)).length<=big):Cp v sc ts (.bytes (b.map λc=>(c.toNat:Int))) (.Constant (.bytes b) k p)
 |loc (x p i) (h:Bc v sc ts x i=true):Cp v sc ts (.loc i) (.Name x p)
 |sub (o j p a i) (h1:stop j=false) (h2:Cp v sc ts a o) (h3:Cp v sc ts i j):Cp v sc ts (.sub a i) (.Subscript o j p)
 |bin (l r p op a b) (h2:Cp v sc ts a l) (h3:Cp v sc ts b r):Cp v sc ts (.bin op a b) (.BinOp l (lI op) r p)
inductive CK (v:CV)(sc:Scope)(ts:List Str):EK->Expr->Prop where
 |one (a e) (h:Cp v sc ts a e):CK v sc ts (.one a) e
 |pair (a b x y k p) (h1:stop x=false) (h2:stop y=false) (h3:Cp v sc ts a x) (h4:Cp v sc ts b y):CK v sc ts (.pair a b) (.Tuple [x,y] k p)
inductive rC (v:CV)(sc:Scope)(ts:List Str):Option (SE×SE)->List Expr->Prop where
 |none:rC v sc ts none []
 |some (a b l r p) (h1:behindInMarks .Eq r=false) (h2:Cp v sc ts a l) (h3:Cp v sc ts b r):rC v sc ts (some (a,b)) [.Compare l [.Eq] [r] p]
inductive Tg:Nat->Expr->List Str->Prop where
 |name (x p):Tg 1 (.Name x p) [x]
 |tup (es k p xs w) (h1:w≠1) (h2:xs.length=w) (h3:DG es xs):Tg w (.Tuple es k p) xs
noncomputable def sI (v:CV)(sc:Scope)(ts:List Str):Bool:=
 sc.kind== .function&&v.sc.kind== .function&&decide ts.Nodup&&(ts.all λx=>sc.names.lookup x==some .local)&&
 (sc.names.all λp=>p.2 != .cell&&(p.2 != .local||sc.names.lookup p.1==some .local)&&(p.2 != .free||(v.sc.names.lookup p.1==some .cell&&(v.om.lookup p.1).isSome)))
inductive Ct (S:ls)(v:CV):Expr->Expr->ST->Prop where
 |name (x p i e) (h:v.om.lookup x=some i):Ct S v (.Name x p) e (.name i)
 |tup (es k p is e) (h1:es.length≠1) (h2:CN v es is) (h3:zo e=false):Ct S v (.Tuple es k p) e (.tup is)
 |attr (o p a k e) (h:Ck S v o a):Ct S v (.Attribute o (S.attr k) p) e (.attr a k)
 |sub (o j p a i e) (h1:Ck S v o a) (h2:Ck S v j i):Ct S v (.Subscript o j p) e (.sub a i)
noncomputable def ww (v:CV):Bool:=v.sc.names.all λp=>p.2 != .cell
inductive Ch (S:ls)(X:Nat->Bool)(v:CV)(kk:Nat):List Stmt->HS->Prop where
 |jR (k p q):Ch S X v kk [.Return (some (.Constant .none k p)) q] .jR
 |setB (x p b k q r i) (h:v.om.lookup x=some i):Ch S X v kk [.Assign [.Name x p] (.Constant (.bool b) k q) r] (.setB i b)
 |inc (x p n k q r i) (h:gq v x i=true):Ch S X v kk [.AugAssign (.Name x p) .Add (.Constant (.int n) k q) r] (.inc i n)
 |raise (x p s k q r t j) (h1:eg v x=true) (h2:S.glob.lookup x=some (.cls j)) (h3:X j=true) (h4:S.HQ j=true) (h5:S.HQ kk=false) (h6:ww v=true):Ch S X v kk [.Raise (some (.Call (.Name x p) [.Constant (.str s) k q] [] r)) none t] (.raise j)
theorem Kf {S:ls}(h:Ct S v t e tt):swappedStores [t] e env=pure none:=by
 cases h with
 |tup es k p is e h1 h2 h3=>exact (pl e).Qy h3 _ _ _ _
 |_=>rfl
section
variable {c:Cx}{d n k:Nat}{m:Str->Option Value}{ac:ao}{ah:dN}{H:HP}{s:Shared}{v:CV}{l:cR}{A:Around}{E:Value->Shared->Prop}{R:au}
set_option tactic.hygienic true in
theorem Lz (ok:c.Ok d)(V:su c v){X:Nat->Bool}{kk:Nat}(hc:Ch c.S X v kk xs h)(Jz:∀k,h≠ .raise k)(hn:aV c m ac ah H s)(hL:bC c v l m ac ah)(q:bv c v ac ah (KX h l H) Q E):
  wpAny (model c.prog c.w) Ah (execs xs c.env) Q (λu8 u8=>False) s:=by
 cases hc with
 |jR=>
  refine wpAny_execs_cons ?_
  rw [arm_exec_Return]
  refine ar (wpAny_standAt (ar (Constant_none (bu ?_))))
  exact q _ _ _ _ _ hn br.refl .none
 |setB x p b k q' r i h1=>
  refine wpAny_execs_cons ?_
  refine wpAny_Assign_Name (Constant_bool ?_) ((pl _).swap rfl _ _ _)
  refine (show wpAny _ _ (bindName c.env _ _) _ _ _->wpAny _ _ (storeName c.env _ _) _ _ _ from λz Γ p hΓ=>by have y:=z Γ p hΓ;rw [Sem.wp_bindName] at y;exact y) ?_
  exact jE ok V hn hL h1 (.bool _) λm' az s' jf X' FN=>wpAny_execs_nil (q _ _ _ _ jf X' FN)
 |inc x p n k q' r i h1=>
  change bv c v ac ah (match l[i]? with|some (some (.int a))=> .next (al l i (.int (a+_))) H|_=> .bad) Q E at q
  split at q
  ·rename_i a ha
   have he:=ez ok V hL
   refine aZ (he.loc _ i _ h1 ha ac ah br.refl) λrv vr hr=> ?_
   unfold gq at h1
   simp only [Bool.and_eq_true,beq_iff_eq,bne_iff_ne,ne_eq] at h1
   obtain ⟨t,rfl⟩:=aQ vr
   refine wpAny_execs_cons (wpAny_AugAssign_Name (rc (λpos=>hr H s _ pos _ _ hn ?_) (eS h1.1.2)))
   refine wpAny_Constant_int (PyProof.Rows.iadd_int ?_)
   refine (show wpAny _ _ (bindName c.env _ _) _ _ _->wpAny _ _ (storeName c.env _ _) _ _ _ from λz Γ p hΓ=>by have y:=z Γ p hΓ;rw [Sem.wp_bindName] at y;exact y) ?_
   exact jE ok V (hn.toks _) hL h1.1.1 (.int _ _) λm' az s' jf X' FN=>wpAny_execs_nil (q _ _ _ _ jf X' FN)
  ·exact q.elim
 |raise _ _ _ _ _ _ _ j=>exact absurd rfl (Jz _)
end
section
variable {c:Cx}{d n k:Nat}{v:CV}{A:Around}{R:au}{X:Nat->Bool}
noncomputable abbrev C8 (c:Cx)(v:CV)(A:Around)(R:au)(x:Stmt)(st:SS):Prop:=
 ∀{l:cR} {m:Str->Option Value} {ac:ao} {ah:dN} {H:HP} {s:Shared} {Q:Flow->Shared->Prop} {E:Value->Shared->Prop},aV c m ac ah H s->bC c v l m ac ah->bv c v ac ah (gJ c.P R st l H) Q E->aG (model c.prog c.w) A (exec x c.env) Q E s
theorem Cf (ok:c.Ok d)(RS:d5 c n R)(V:su c v)(hA:lM c n (k+1) A)(h1:nT x=false)(h2:Ck c.S v x e)(h3:Ct c.S v t x tt):C8 c v A R (.Assign [t] x pos) (.j4 tt e):=by
 intro l m ac ah H s Q E hn hL h
 have h' :bv c v ac ah ((bj c.P R e l H).then l λu H=>Bq c.P R tt u l H) Q E:=h
 have Pq:assignEach [t] c.env= [(false,assign t c.env)]:=by
  cases h3<;>rfl
 refine AZ ((pl _).swap h1 _ _ _) (Kf h3) Pq (f9 ok RS _ _ h2 hA (ez ok V hL) hn (bv.then hL h' λu H1 n1 l1 s1 ru cN X1 kO vu gf=> ?_))
 cases h3 with
 |name x p i e g=>
  exact KQ (ap (jE ok V cN kO g vu λm' az s' jf X' FN=>gf _ _ _ _ jf X' FN))
 |tup es k p is e g1 g2 g3=>
  cases u with
  |tuple vs=>
   change bv c v n1 l1 (if is.length=vs.length then .next (dJ l is vs) H1 else .bad) Q E at gf
   split at gf
   ·exact ap (xE ok V hA.hand cN kO g2 vu ‹_› λm' az s' jf X' FN=>gf _ _ _ _ jf X' FN)
   ·exact gf.elim
  |_=>exact gf.elim
 |attr o p a i e h4=>
  refine Ot (f9 ok RS _ _ h4 hA (ez ok V kO) cN (bv.then kO gf λo H2 n2 l2 s2 ro fI X2 un vo ka=> ?_))
  cases hp:bD c.P o i u H2 with
  |none=>rw [hp] at ka;exact ka.elim
  |some H3=>
   rw [hp] at ka
   exact ap (th ok fI vo (vu.ext X2) hp λaz s' jf X' =>ka _ _ _ _ jf X'.wide (un.ext X'))
 |sub o j p a i e h4 h5=>
  refine Pd (f9 ok RS _ _ h4 hA (ez ok V kO) cN (bv.then kO gf λo H2 n2 l2 s2 ro fI X2 un vo ka=> ?_))
  refine f9 ok RS _ _ h5 hA (ez ok V un) fI (bv.then un ka λkk H3 n3 l3 s3 rk rZ X3 FY vk G0=> ?_)
  cases hp:jO o kk u H3 with
  |none=>rw [hp] at G0;exact G0.elim
  |some H4=>
   rw [hp] at G0
   exact ap (zJ ok rZ (vo.ext X3) vk ((vu.ext X2).ext X3) hp λaz s' jf X' =>G0 _ _ _ _ jf X'.wide (FY.ext X'))
theorem Gf (ok:c.Ok d)(RS:d5 c n R)(V:su c v)(hA:lM c n (k+1) A)(h4:Ck c.S v o a)(h5:Ck c.S v j i):C8 c v A R (.Delete [.Subscript o j p] pos) (.del a i):=by
 intro l m ac ah H s Q E hn hL h
 have h' :bv c v ac ah ((bj c.P R a l H).then l λo H=>(bj c.P R i l H).then l λk H=>match iw o k H with|some H=> .next l H|none=> .bad) Q E:=h
 refine Ty (f9 ok RS _ _ h4 hA (ez ok V hL) hn (bv.then hL h' λo H2 n2 l2 s2 ro fI X2 un vo ka=> ?_))
 refine f9 ok RS _ _ h5 hA (ez ok V un) fI (bv.then un ka λkk H3 n3 l3 s3 rk rZ X3 FY vk G0=> ?_)
 cases hp:iw o kk H3 with
 |none=>rw [hp] at G0;exact G0.elim
 |some H4=>
  rw [hp] at G0
  exact ap (Az ok rZ (vo.ext X3) vk hp λaz s' jf X' =>G0 _ _ _ _ jf X'.wide (FY.ext X'))
theorem J8 {C:cQ->Prop}(bad:C .bad){f:Int->cQ}{x:SV}(k:∀i,x= .int i->C (f i)):C (match (generalizing:=false) x with| .int i=>f i|_=> .bad):=by
 cases x with
 |int i=>exact k i rfl
 |_=>exact bad
theorem Ee {C:cQ->Prop}(bad:C .bad){f:Int->Int->cQ}{x y:SV}(k:∀i j,x= .int i->y= .int j->C (f i j)):C (match (generalizing:=false) x,y with| .int i, .int j=>f i j|_,_=> .bad):=by
 cases x with
 |int i=>cases y with
  |int j=>exact k i j rfl rfl
  |_=>exact bad
 |_=>exact bad
theorem I8 {C:cQ->Prop}(bad:C .bad){f:Int->cQ}{x:Option (Option SV)}(k:∀i,x=some (some (.int i))->C (f i)):C (match (generalizing:=false) x with|some (some (.int i))=>f i|_=> .bad):=by
 cases x with
 |none=>exact bad
 |some x=>cases x with
  |none=>exact bad
  |some v=>cases v with
   |int i=>exact k i rfl
   |_=>exact bad
theorem BR (ok:c.Ok d)(RS:d5 c n R)(V:su c v)(hA:lM c n (k+1) A){x:Str}{p pos:Pos}{y:Expr}{i:Nat}{op:wm}{e:SE}(h1:gq v x i=true)(h2:tE op=true)(h3:Ck c.S v y e):C8 c v A R (.AugAssign (.Name x p) (lI op) y pos) (.pO i op e):=by
 intro l m ac ah H s Q E hn hL h
 refine I8 (C:=λo=>bv c v ac ah o Q E->_) (λh=>h.elim) (x:=l[i]?) (f:=λa=>(bj c.P R e l H).then l λv H=>(match v with| .int b=>(cE op (.int a) (.int b) H).then l λv H=> .next (al l i v) H|_=> .bad)) (λa ha h=> ?_) h
 have he:=ez ok V hL
 refine aZ (he.loc _ i _ h1 ha ac ah br.refl) λrv vr hr=> ?_
 unfold gq at h1
 simp only [Bool.and_eq_true,beq_iff_eq,bne_iff_ne,ne_eq] at h1
 obtain ⟨t,rfl⟩:=aQ vr
 refine Qe (ap (rc (λpos=>hr H s _ pos _ _ hn ?_) (eS h1.1.2)))
 refine f9 ok RS _ _ h3 hA he hn (bv.then hL h λu H1 n1 l1 s1 ru cN X1 kO vu h4=> ?_)
 refine J8 (C:=λo=>bv c v n1 l1 o Q E->_) (λh=>h.elim) (λb eb h4=> ?_) h4
 obtain ⟨_,rfl⟩:=aQ (eb▸vu)
 refine QD cN h2 (bv.then kO h4 λw H2 n2 l2 s2 Ui fI X2 un vw h5=> ?_)
 exact ap (jE ok V fI un h1.1.1 vw λm' az s' jf X' FN=>h5 _ _ _ _ jf X' FN)
theorem Dx (ok:c.Ok d)(RS:d5 c n R)(V:su c v)(hA:lM c n (k+1) A){o' :Expr}{p pos:Pos}{y:Expr}{a:Nat}{op:wm}{o e:SE}(h1:Ck c.S v o' o)(h2:tE op=true)(h3:Ck c.S v y e):C8 c v A R (.AugAssign (.Attribute o' (c.S.attr a) p) (lI op) y pos) (.tF o a op e):=by
 intro l m ac ah H s Q E hn hL h
 have h' :bv c v ac ah ((bj c.P R o l H).then l λov H=>(eC ov a H).then l λx H=>(bj c.P R e l H).then l λy H=>match x,y with
  | .int i, .int j=>(cE op (.int i) (.int j) H).then l λv H=>match bD c.P ov a v H with
   |some H=> .next l H
   |none=> .bad
  |_,_=> .bad) Q E:=h
 refine PY (f9 ok RS _ _ h1 hA (ez ok V hL) hn (bv.then hL h' λov H1 n1 l1 s1 ro cN X1 kO vo h4=> ?_))
 refine KJ ok cN vo (bv.then kO h4 λx H2 n2 l2 s2 rx fI X2 un vx h5=> ?_)
 refine f9 ok RS _ _ h3 hA (ez ok V un) fI (bv.then un h5 λyy H3 n3 l3 s3 ry rZ X3 FY vy h6=> ?_)
 refine Ee (C:=λo=>bv c v n3 l3 o Q E->_) (λh=>h.elim) (λi j ei ej h6=> ?_) h6
 obtain ⟨_,rfl⟩:=aQ (ei▸vx)
 obtain ⟨_,rfl⟩:=aQ (ej▸vy)
 refine QD rZ h2 (bv.then FY h6 λw H4 n4 l4 s4 Ui NV X4 Xe vw h7=> ?_)
 cases hp:bD c.P ov a w H4 with
 |none=>rw [hp] at h7;exact h7.elim
 |some H5=>
  rw [hp] at h7
  exact ap (th ok NV (((vo.ext X2).ext X3).ext X4) vw hp λaz s' jf X' =>h7 _ _ _ _ jf X'.wide (Xe.ext X'))
end
section
variable {M:Model}{A:Around}{E:Value->Shared->Prop}{s:Shared}{env:Env}
theorem xg (h:wpAny M A m Q E s):wpAny M A (operate vs m) Q E s:=λΓ p i=>by
 rw [Sem.wp_operate];exact h Γ p i
theorem T7 (h:wpAny M A (eval l env) (λa s₁=>wpAny M A (eval r env) (λb s₂=>wpAny M A (binaryOp op a b) Q E s₂) E s₁) E s):wpAny M A (eval (.BinOp l op r pos) env) Q E s:=by
 rw [arm_eval_BinOp]
 exact ar (wpAny_mono h (λa s₁ h₁=>ar (wpAny_holding (wpAny_mono h₁ (λb s₂ h₂=>ar (wpAny_standAt (xg h₂))) λu8 u8 x=>x))) λu8 u8 x=>x)
theorem TG (h:wpAny M A (eval v env) (λo s₁=>wpAny M A (eval i env) (λk s₂=>wpAny M A (subscriptTail v i o k) Q E s₂) E s₁) E s):wpAny M A (eval (.Subscript v i pos) env) Q E s:=by
 rw [arm_eval_Subscript]
 exact ar (wpAny_mono h (λo s₁ h₁=>ar (wpAny_holding (wpAny_mono h₁ (λk s₂ h₂=>ar (wpAny_standAt h₂)) λu8 u8 x=>x))) λu8 u8 x=>x)
theorem EF {l r whole:_}(h:wpAny M A (eval l env) (λa s₁=>wpAny M A (eval r env) (λb s₂=>wpAny M A (compareOp op a b) (λc s₃=>wpAny M A (truthy c) Q E s₃) E s₂) E s₁) E s)
  (hm:behindInMarks op r=false):wpAny M A (isTrue (.Compare l [op] [r] pos) env whole) Q E s:=by
 rw [isTrue_Compare1,markedBehindIn_of_false hm]
 exact ar (wpAny_mono h (λa s₁ h₁=>ar (wpAny_holding (wpAny_mono h₁ (λb s₂ h₂=>ar (wpAny_standAt (ar (xg (wpAny_mono h₂ (λc s₃ h₃=>wpAny_holding h₃) λu8 u8 x=>x))))) λu8 u8 x=>x))) λu8 u8 x=>x)
theorem Qj {k:_}(ha:stop a=false)(hb:stop b=false)(h:wpAny M A (eval a env) (λx s₁=>wpAny M A (eval b env) (λy s₂=>wpAny M A (newTuple [x,y]) Q E s₂) E s₁) E s):wpAny M A (eval (.Tuple [a,b] k pos) env) Q E s:=by
 rw [arm_eval_Tuple]
 refine ar (wpAny_standAt (ar ?_))
 rw [(pl a).star ha,(pl b).star hb]
 show wpAny M A (do let v<-eval a env;let here<-(pure [v]:Sem (List Value));return here++(<-holding here (do let v<-eval b env;let here<-(pure [v]:Sem (List Value));return here++(<-holding here (pure []))))) _ E s
 exact ar (wpAny_mono h (λx s₁ h₁=>ar (bu (ar (wpAny_holding (ar (wpAny_mono h₁ (λy s₂ h₂=>ar (bu (ar (wpAny_holding (bu (bu (bu h₂))))))) λu8 u8 x=>x)))))) λu8 u8 x=>x)
end
noncomputable def qY (env:Env):List (Str×NameKind)->List (Str×Addr)->List (Str×Addr)
 | [],cs=>cs
 |(x,k)::r,cs=>qY env r (if k== .free then (x,(env.cells.lookup x).getD 0)::cs else cs)
theorem A7 (env:Env)(x:Str)(k:NameKind)(r:List (Str×NameKind))(cs:List (Str×Addr)):qY env ((x,k)::r) cs=qY env r (if k== .free then (x,(env.cells.lookup x).getD 0)::cs else cs):=rfl
theorem vS {env:Env}:∀(names:List (Str×NameKind)) (cs:List (Str×Addr)),(∀p∈names,p.2= .free->∃a,env.cells.lookup p.1=some a)->
  (forIn names cs (λx r=>do
   let (name,kind):=x
   if kind== .free then
    let a<-cellOf env name
    pure (ForInStep.yield ((name,a)::r))
   else pure (ForInStep.yield r)):Sem (List (Str×Addr)))=pure (qY env names cs)
 | [],cs,_=>rfl
 |(x,k)::r,cs,h=>by
  rw [List.forIn_cons]
  rw [A7]
  by_cases e:k= .free
  ·obtain ⟨a,ha⟩:=h _ (.head _) e
   have:(k==NameKind.free)=true:=beq_iff_eq.mpr e
   simp only [this,if_true]
   unfold cellOf
   rw [show env.cells.lookup x=some a from ha]
   exact vS r _ λp hp=>h p (.tail _ hp)
  ·have:(k==NameKind.free)=false:=eS e
   simp only [this,Bool.false_eq_true,if_false]
   exact vS r _ λp hp=>h p (.tail _ hp)
theorem Il (h:∀p∈scope.names,p.2= .free->∃a,env.cells.lookup p.1=some a):closureFor scope env=pure (qY env scope.names []):=by
 have:=vS (env:=env) scope.names [] h
 unfold closureFor
 show (forIn scope.names [] _>>=λr=>pure r)=_
 rw [show (forIn scope.names [] (λx r=>do
   let (name,kind):=x
   if kind== .free then
    let a<-cellOf env name
    pure (ForInStep.yield ((name,a)::r))
   else pure (ForInStep.yield r)):Sem (List (Str×Addr)))=_ from this]
 rfl
theorem oO (ha:env.cells.lookup x=some a):∀(names:List (Str×NameKind)) (cs:List (Str×Addr)),((x,NameKind.free)∈names∨cs.lookup x=some a)->(∀b,cs.lookup x=some b->b=a)->(qY env names cs).lookup x=some a
 | [],cs,h,_=>by
  rcases h with h|h
  ·exact jZ h
  ·exact h
 |(y,k)::r,cs,h,hc=>by
  rw [A7]
  by_cases e:k= .free
  ·have:(k==NameKind.free)=true:=beq_iff_eq.mpr e
   rw [this,if_pos rfl]
   by_cases q:x=y
   ·subst q
    have z:((x,(env.cells.lookup x).getD 0)::cs).lookup x=some a:=by rw [ha];simp
    exact oO ha r _ (.inr z) λb hb=>by rw [z] at hb;exact (cq hb).symm
   ·have q' :(x==y)=false:=eS q
    have z:((y,(env.cells.lookup y).getD 0)::cs).lookup x=cs.lookup x:=by rw [List.lookup_cons,q']
    refine oO ha r _ ?_ λb hb=>hc b (by rw [<-z];exact hb)
    rcases h with h|h
    ·rcases cH h with h|h
     ·cases h;exact absurd rfl q
     ·exact .inl h
    ·exact .inr (z.trans h)
  ·have:(k==NameKind.free)=false:=eS e
   rw [this]
   refine oO ha r cs ?_ hc
   rcases h with h|h
   ·rcases cH h with h|h
    ·cases h;exact absurd rfl e
    ·exact .inl h
   ·exact .inr h
theorem i9 {env:Env}(hf:env.scope.kind= .function){x:Str}(hx:env.kindOf x=some .cell):∀{names:List (Str×NameKind)},names.lookup x=some .free->
  (names.map λ(n,k)=>if (k==NameKind.free&&env.scope.kind== .function&&env.kindOf n==some .cell) then (n,NameKind.cell) else (n,k)).lookup x=some .cell
 | [],h=>by cases h
 |(n,k)::r,h=>by
  have ih:= @i9 env hf x hx r
  show List.lookup x ((if (k==NameKind.free&&env.scope.kind== .function&&env.kindOf n==some .cell)=true then (n,NameKind.cell) else (n,k))::_)=_
  by_cases q:x=n
  ·subst q
   rw [List.lookup_cons,iV] at h
   cases h
   rw [hf,hx]
   simp
  ·have q' :(x==n)=false:=eS q
   rw [List.lookup_cons,q'] at h
   by_cases hc:(k==NameKind.free&&env.scope.kind== .function&&env.kindOf n==some .cell)=true
   ·rw [if_pos hc,List.lookup_cons,q'];exact ih h
   ·rw [if_neg hc,List.lookup_cons,q'];exact ih h
section
variable {c:Cx}{d n:Nat}{m:Str->Option Value}{ac:ao}{ah:dN}{H:HP}{s:Shared}{v:CV}{l:cR}{A:Around}{E:Value->Shared->Prop}{sc:Scope}{ts:List Str}{cv:List SV}{C:Addr}
noncomputable abbrev qu (c:Cx)(sc:Scope)(C:Addr):Env:=compEnvC sc (qY c.env sc.names []) C c.env
noncomputable def NU (c:Cx)(v:CV)(sc:Scope)(ts:List Str)(l:cR)(cv:List SV)(C:Addr)(ac:ao)(ah:dN)(h:Heap):Prop:=∀x i val,Bc v sc ts x i=true->K9 l cv i=some val->
 ∃rv,av ac ah val rv/\∀(s:Shared) A pos (Q:Value->Shared->Prop) (E:Value->Shared->Prop),s.heap=h->Q rv s->wpAny (model c.prog c.w) A (eval (.Name x pos) (qu c sc C)) Q E s
theorem YR (ok:c.Ok d)(V:su c v)(hf:sc.kind= .function)(hn:aV c m ac ah H s)(hL:bC c v l m ac ah)(hC:s.heap.Ns C mC)
  (own:∀(j:Nat) (x:Str) (val:SV),ts[j]? =some x->cv[j]? =some val->∃rv,mC x=some rv/\av ac ah val rv):NU c v sc ts l cv C ac ah s.heap:=λx i val h1 h2=>by
 unfold Bc at h1
 simp only [Bool.and_eq_true,bne_iff_ne,ne_eq] at h1
 obtain ⟨⟨e2,e3⟩,h1⟩:=h1
 have hd:(x==("__debug__":Str))=false:=eS e2
 unfold K9 at h2
 by_cases hi:i<1000
 ·rw [if_pos hi] at h1 h2
  simp only [Bool.and_eq_true,beq_iff_eq] at h1
  obtain ⟨⟨a1,a2⟩,a3⟩:=h1
  rw [V.sc] at a3
  have hl:l[i]? =some (some val):=by
   split at h2
   ·cases h2;assumption
   ·exact mZ h2
  refine HW (hL.Jf x i val a1 hl a3) λa o rv b1 b2 b3 b4=> ?_
  refine ⟨rv,b4,λs' A pos Q E hs q=>wpAny_Name (wpAny_loadName_cell hf (i9 (env:=c.env) ok.kind (show c.env.kindOf x=some .cell from a3) a2) (oO (show c.env.cells.lookup x=some a from b1) _ [] (.inl (eL a2)) (λu8 e=>by cases e)) ⟨o,by rw [hs];exact hn.addr b2,b3⟩ q) hd⟩
 ·rw [if_neg hi] at h1 h2
  simp only [Bool.and_eq_true,beq_iff_eq] at h1
  refine aZ (own _ _ _ h1.1 h2) λrv b1 b2=> ?_
  exact ⟨rv,b2,λs' A pos Q E hs q=>wpAny_Name (wpAny_loadName_local hf (lookup_relabel_local h1.2) (by rw [hs];exact hC) b1 q) hd⟩
theorem Ab {C:wm->SV->SV->Option SV->Prop}(bad:∀{op a b},C op a b none)(mi:∀i j,0<j/\j<1000000000->C .mod (.int i) (.int j) (some (.int (i%j))))(ab:∀x y,x.length+y.length<=big->C .add (.bytes x) (.bytes y) (some (.bytes (x++y))))(op:wm)(a b:SV):C op a b (Ii op a b):=by
 cases a with
 |int i=>cases b with
  |int j=>cases op with
   |mod=>
    show C _ _ _ (if 0<j/\j<1000000000 then some (.int (i%j)) else none)
    split
    ·exact mi i j ‹_›
    ·exact bad
   |_=>exact bad
  |_=>exact bad
 |bytes x=>cases b with
  |bytes y=>cases op with
   |add=>
    show C _ _ _ (if x.length+y.length<=big then some (.bytes (x++y)) else none)
    split
    ·exact ab x y ‹_›
    ·exact bad
   |_=>exact bad
  |_=>exact bad
 |_=>exact bad
theorem VS {op:wm}{a b val:SV}{ra rb:Value}{s:Shared}{Q:Value->Shared->Prop}(e:Ii op a b=some val)(v1:av ac ah a ra)(v2:av ac ah b rb)(q:∀rx t,av ac ah val rx->Q rx {s with toks:=t}):wpAny (model c.prog c.w) A (binaryOp (lI op) ra rb) Q E s:=by
 refine Ab (C:=λop a b z=>z=some val->av ac ah a ra->av ac ah b rb->wpAny (model c.prog c.w) A (binaryOp (lI op) ra rb) Q E s) (λe=>fh e) (λi j hz e v1 v2=> ?_) (λx y hz e v1 v2=> ?_) op a b e v1 v2
 ·obtain ⟨_,rfl⟩:=aQ v1
  obtain ⟨_,rfl⟩:=aQ v2
  have e:=cq e
  subst e
  exact PyProof.Rows.mod_int' (by lia) (by rw [wY hz.1];exact q _ _ (.int _ _))
 ·refine jX (bh v1) λu8 u8 de h1 u8=> ?_;subst de
  refine jX (bh v2) λu8 u8 de h2 u8=> ?_;subst de
  have e:=cq e
  subst e
  have UZ:x.length+y.length<=4096:=hz
  exact KBa.add_K h1.symm h2.symm (by exact lA ‹_› rfl) λXc k' hb=>q _ _ (.bytes _ _ hb (by rw [aL];exact hz))
theorem EG {P:Prop}(e:rj a i H=some val)(k:∀H',dH a i H= .ok val H'->P):P:=by
 unfold rj at e
 cases q:dH a i H with
 |ok v H' =>rw [q] at e;exact k H' (cq e▸q)
 |_=>rw [q] at e;exact fh e
theorem PR {f:SV->SV->Option SV}{P:Prop}(h:((vK a l cv H).bind λy=>(vK b l cv H).bind λz=>f y z)=some val)(k:∀y z,vK a l cv H=some y->vK b l cv H=some z->f y z=some val->P):P:=by
 refine aZ (Option.bind_eq_some_iff.mp h) λy e1 h=> ?_
 refine aZ (Option.bind_eq_some_iff.mp h) λz e2 h=> ?_
 exact k y z e1 e2 h
theorem pH (ok:c.Ok d)(hn:aV c m ac ah H s)(he:NU c v sc ts l cv C ac ah s.heap)(hc:Cp v sc ts e x):∀{t0:Nat} {val:SV} {Q:Value->Shared->Prop},vK e l cv H=some val->
  (∀rx t,av ac ah val rx->Q rx {s with toks:=t})->wpAny (model c.prog c.w) A (eval x (qu c sc C)) Q E {s with toks:=t0}:=by
 induction hc with
 |int i k p=>exact λh q=>wpAny_Constant_int (q _ _ (cq h▸ .int _ _))
 |bytes b k p h2=>exact λh q=>Constant_bytes (q _ _ (cq h▸ .bytes _ _ (KBw.ints_list _) h2))
 |loc x p i hc=>
  intro t0 val Q h q
  refine aZ (he _ _ _ hc h) λrv a1 a2=> ?_
  exact a2 _ _ _ _ _ rfl (q _ _ a1)
 |sub o j p a i h1 h2 h3 i2 i3=>
  exact λh q=>PR (f:=λy z=>rj y z H) h λy z e1 e2 h=>TG (i2 e1 λry t1 v1=>i3 e2 λrz t2 v2=>EG h λH' e=>Em ok (hn.toks t2) h1 v1 v2 e λrx t vx u8=>q rx t vx)
 |bin l' r p op a b h2 h3 i2 i3=>
  exact λh q=>PR (f:=Ii op) h λy z e1 e2 h=>T7 (i2 e1 λry t1 v1=>i3 e2 λrz t2 v2=>VS h v1 v2 q)
theorem Ho (ok:c.Ok d)(hu:A.units<=9000)(hn:aV c m ac ah H s)(he:NU c v sc ts l cv C ac ah s.heap)(hc:rC v sc ts t ifs)(h:o0 t l cv H=some b)
  (q:∀t,Q b {s with toks:=t}):wpAny (model c.prog c.w) A (forIn ifs true λy r=>if r=true then do let ok<-isTrue y (qu c sc C) (eval y (qu c sc C));pure (ForInStep.yield ok) else pure (ForInStep.yield r)) Q E s:=by
 unfold o0 at h
 cases hc with
 |none=>cases h;exact wpAny_tests_nil (q s.toks)
 |some a b' l' r p h1 h2 h3=>
  dsimp only at h
  refine aZ (Option.bind_eq_some_iff.mp h) λy e1 h=> ?_
  refine aZ (Option.bind_eq_some_iff.mp h) λz e2 h=> ?_
  refine wpAny_tests_one (EF (pH (t0:=s.toks) ok hn he h2 e1 λry t1 v1=>pH ok hn he h3 e2 λrz t2 v2=> ?_) h1)
  exact Fz (op:= .eq) (hn.toks t2) hu v1 v2 h λt3=>wpAny_truthy_bool (q t3)
theorem Ji (ok:c.Ok d)(hn:aV c m ac ah H s)(he:NU c v sc ts l cv C ac ah s.heap){k:EK}(hc:CK v sc ts k x)(h:Lr k l cv H=some val)
  (q:∀p rx s',aV c m p ah H s'->(∀b o,s.heap.get? b=some o->s'.heap.get? b=some o)->(p.map (·.1)=ac.map (·.1)∨p.map (·.1)=s.heap.objs.size::ac.map (·.1))->br [] ac ah p ah->av p ah val rx->Q rx s'):
  wpAny (model c.prog c.w) A (eval x (qu c sc C)) Q E {s with toks:=t0}:=by
 cases hc with
 |one e x h1=>exact pH ok hn he h1 h λrx t vx=>q _ rx _ (hn.toks t) (λu8 u8 e=>e) (.inl rfl) br.refl vx
 |pair a b x y kk p h1 h2 h3 h4=>
  refine aZ (Option.bind_eq_some_iff.mp (show (vK a l cv H).bind _=some val from h)) λy e1 h=> ?_
  refine aZ (Option.bind_eq_some_iff.mp h) λz e2 h=> ?_
  cases h
  refine Qj h1 h2 (pH ok hn he h3 e1 λry t1 v1=>pH ok hn he h4 e2 λrz t2 v2=> ?_)
  refine hn.gE λg T F N=> ?_
  refine newTuple_NK (s:={s with toks:=t2}) F N (λh' F' N' hk=> ?_) (by rw [eT];simp)
  obtain ⟨b1,b2,b3⟩:=kh (t:=t2) hn T F' N' hn.lt (.cons v1 (.cons v2 .nil)) (by show 2<=4096;exact lE rfl)
  exact q _ _ _ b1 hk (.inr rfl) b2 b3
theorem aV.off (hn:aV c m ac ah H s)(hC:B∉ac.map (·.1))(hL:B≠c.L)(hg:c.g₀.objs.size<=B){t:Nat}(he:Heap.ExtBut B s.heap h'):aV c m ac ah H {s with heap:=h',toks:=t}:=by
 obtain ⟨⟨g,T,F,N⟩,nd,hr,ce,sh⟩:=hn
 refine ⟨⟨g,T,⟨F.ns.extBut he (Ne.symm hL),λb o e=>he b o (λq=> ?_) (F.keep b o e),F.above⟩,λp hp=> ?_⟩,nd,hr,ce,sh⟩
 ·exact absurd (Nat.lt_of_lt_of_le (T.size▸Heap.lt_size e) hg) (by rw [q];exact Nat.lt_irrefl _)
 ·refine rm (N p hp) λa1 a2 a3=> ?_
  exact ⟨he _ _ (λq=>hC (q▸hZ (f:=(·.1)) hp)) a1,a2,a3⟩
theorem aV.adopt (hn:aV c m ac ah H s)(hD:s.heap.get? D=some (listOf aC.toArray nn))(hk:D∉ac.map (·.1))(lN:∀p∈ah,p.1<D/\p.2<D)(hL:D≠c.L)(hg:c.g₀.objs.size<=D)(hv:aI ac ah vs aC)(hl:vs.length<=big):
  aV c m ((D,listOf aC.toArray nn)::ac) (ah++ [(D,D)]) (H++ [.list vs]) s/\br [] ac ah ((D,listOf aC.toArray nn)::ac) (ah++ [(D,D)])/\av ((D,listOf aC.toArray nn)::ac) (ah++ [(D,D)]) (.ref H.length) (.ref D):=by
 obtain ⟨⟨g,T,F,N⟩,nd,hr,ce,sh⟩:=id hn
 have X:br [] ac ah ((D,listOf aC.toArray nn)::ac) (ah++ [(D,D)]):=br.app _ _
 have Qs:g.get? D=none:=Heap.get?_none_of_le (by rw [T.size];exact hg)
 refine ⟨⟨⟨g,T,F,λp hp=> ?_⟩, ?_,⟨by simp [hr.len],λi o' p e hp=> ?_, ?_,λp hp=> ?_,λp hp=> ?_⟩,λy a e=>let ⟨o,v,h1,h2⟩:=ce y a e;⟨o,v, .tail _ h1,h2⟩,sh⟩,X,rK hn⟩
 ·rcases cH hp with e|hp
  ·subst e;exact ⟨hD,hL,Qs⟩
  ·exact N p hp
 ·rw [dY,List.nodup_cons];exact ⟨hk,nd⟩
 ·rcases Nat.lt_or_ge i H.length with l|l
  ·rw [iM l] at e
   rw [iM (by rw [hr.len];exact l)] at hp
   exact (hr.obj i o' p e hp).keep (br.app (X:= []) _ _) λu8 hr u8=> .tail _ hr
  ·have:i=H.length:=by
    have:=(gw e).1
    simp at this;lia
   subst this
   rw [eG (bS _)] at e
   rw [<-hr.len,eG (bS _)] at hp
   simp at e hp
   subst e hp
   exact .list (.head _) (hv.ext X) hl
 ·rw [List.pairwise_append]
  refine ⟨hr.apart,by simp,λp hp q hq=> ?_⟩
  rw [List.mem_singleton] at hq
  subst hq
  have a:=lN p hp
  have b:=hr.DJ p hp
  lia
 ·rcases gi hp with hp|hp
  ·exact hr.DJ p hp
  ·rw [List.mem_singleton] at hp
   subst hp;exact bS _
 ·rcases gi hp with hp|hp
  ·obtain ⟨o,ho⟩:=hr.there p hp
   exact ⟨o, .tail _ ho⟩
  ·rw [List.mem_singleton] at hp
   subst hp;exact ⟨_, .head _⟩
theorem Ba (hf:sc.kind= .function)(hx:sc.names.lookup x=some .local)(hC:s.heap.Ns C mC)
  (q:∀h',h'.Ns C (λy=>if y=x then some rv else mC y)->Heap.SameBut C s.heap h'->Q () {s with heap:=h',toks:=s.toks+1}):wpAny M A (assign (.Name x p) (qu c sc C) rv) Q E s:=
 wpAny_assign_Name (wpAny_storeName_local (lookup_relabel_local hx) hC q (by
  show (sc.kind==ScopeKind.class||(sc.kind==ScopeKind.module&&_))=false
  rw [hf];rfl))
theorem Gk (hf:sc.kind= .function)(h:DG es xs):∀{rs:List Value} {mC:Str->Option Value} {s:Shared} {Q:Unit->Shared->Prop},(∀x∈xs,sc.names.lookup x=some .local)->xs.Nodup->xs.length=rs.length->s.heap.Ns C mC->
  (∀h' t HN,h'.Ns C HN->Heap.ExtBut C s.heap h'->(∀(j:Nat) (x:Str) (rv:Value),xs[j]? =some x->rs[j]? =some rv->HN x=some rv)->(∀x,x∉xs->HN x=mC x)->Q () {s with heap:=h',toks:=t})->wpAny M A (assignInOrder (es.map λt=>assign t (qu c sc C)) rs) Q E s:=by
 induction h with
 |nil=>
  intro rs mC s Q _ _ hl hC q
  cases rs with
  |nil=>exact bu (q s.heap s.toks mC hC (Heap.ExtBut.refl _ _) (λj x rv e=>fh e) λu8 u8=>rfl)
  |cons _ _=>exact OE hl
 |cons x p es xs t ih=>
  intro rs mC s Q h2 h3 hl hC q
  cases rs with
  |nil=>exact UQ hl
  |cons rv rs=>
  rw [List.nodup_cons] at h3
  refine ar (wpAny_holding (Ba hf (h2 x (.head _)) hC λh' Lf M7=> ?_))
  refine ih (s:={s with heap:=h',toks:=s.toks+1}) (λy hy=>h2 y (.tail _ hy)) h3.2 (Nat.succ.inj hl) Lf λka t HN a1 a2 a3 a4=>q ka t HN a1 (M7.extBut.trans a2) (λj y ry e1 e2=> ?_) λy hy=> ?_
  ·cases j with
   |zero=>
    rw [<-cq e1,<-cq e2,a4 _ h3.1];exact if_pos rfl
   |succ j=>exact a3 j y ry e1 e2
  ·rw [List.mem_cons,not_or] at hy
   rw [a4 y hy.2]
   exact if_neg hy.1
theorem DG.len (h:DG es xs):es.length=xs.length:=by
 induction h with
 |nil=>rfl
 |cons x p es xs t ih=>exact congrArg (·+1) ih
theorem Ds (h:w≠1)(e:pb w y=some cv):y= .tuple cv/\cv.length=w:=by
 unfold pb at e
 rw [if_neg h] at e
 cases y with
 |tuple vs=>
  change (if vs.length=w then some vs else none)=some cv at e
  split at e
  ·have:=cq e
   subst this
   exact ⟨rfl,‹_›⟩
  ·exact fh e
 |_=>exact fh e
theorem Dy (hh:A.handled=none)(hf:sc.kind= .function){tg:Expr}(GX:Tg w tg ts)(Dq:∀x∈ts,sc.names.lookup x=some .local)(nd:ts.Nodup)(hn:aV c m ac ah H s)(vy:av ac ah y ry)(hb:pb w y=some cv)
  (hC:s.heap.Ns C mC) (q:∀h' t HN,h'.Ns C HN->Heap.ExtBut C s.heap h'->(∀(j:Nat) (x:Str) (val:SV),ts[j]? =some x->cv[j]? =some val->∃rv,HN x=some rv/\av ac ah val rv)->Q () {s with heap:=h',toks:=t}):
  wpAny (model c.prog c.w) A (assign tg (qu c sc C) ry) Q E s:=by
 cases GX with
 |name x p=>
  cases hb
  refine Ba hf (Dq x (.head _)) hC λh' Lf M7=>q h' _ _ Lf M7.extBut λj z val e1 e2=> ?_
  cases j with
  |zero=>exact ⟨ry,by rw [<-cq e1];exact if_pos rfl,cq e2▸vy⟩
  |succ j=>exact fh e1
 |tup es k p xs w h1 h2 h3=>
  obtain ⟨rfl,eA⟩:=Ds h1 hb
  refine xM (cT vy) λaC a de hm nH wb=> ?_;subst de
  refine rm (h3.each (env:=qu c sc C)) λa1 a2 a3=> ?_
  have hT:IsTup s.heap a aC.toArray:=⟨_,hn.addr hm,rfl,_,rfl⟩
  have hle:ts.length=aC.length:=by rw [h2,<-eA,nH.length]
  refine assign_Tuple_tuple hh hT (by rw [a1,List.size_toArray,h3.len,hle]) a2 λh' he=> ?_
  rw [a3]
  have hk:∀b o,s.heap.get? b=some o->h'.get? b=some o:=λb o e=>he b o (cW (Heap.lt_size e)) e
  refine Gk (s:={s with heap:=h' }) hf h3 Dq nd hle (hC.keeps hk) λka t HN b1 b2 b3 b4=>q ka t HN b1 (λb o lF e=>b2 b o lF (hk b o e)) λj x val e1 e2=> ?_
  refine aZ (nH.at e2) λrv r1 r2=> ?_
  exact ⟨rv,b3 j x rv e1 r1,r2⟩
theorem bC.NJ (hit:it∉c.X)(x:br [it] ac ah n1 l1)(h:bC c v l m ac ah):bC c v l m n1 l1:=
 ⟨λy i val h1 h2 h3=>let ⟨rv,a,b⟩:=h.loc y i val h1 h2 h3;⟨rv,a,b.ext x⟩,λy i val h1 h2 h3=>by
  refine HW (h.Jf y i val h1 h2 h3) λa o rv a1 a2 a3 a4=> ?_
  exact ⟨a,o,rv,a1,x.cell _ a2 (kg a3) (by
   intro q
   rw [List.mem_singleton] at q
   exact hit (q▸List.mem_map.mpr ⟨_,eL a1,rfl⟩)),a3,a4.ext x⟩⟩
theorem AE (nd:(ac.map (·.1)).Nodup)(hm:(it,o)∈ac)(hs:dV o=false):br [it] ac ah (eE it ac) ah:=
 ⟨⟨[],(ch _).symm⟩,λp hp q=>bz.mpr ⟨hp,λe=>by
  have:p.2=o:=fc (a:=it) nd (by rw [<-e];exact hp) hm
  rw [this,hs] at q;exact xh q⟩,λp hp q z=>bz.mpr ⟨hp,λe=>z (by rw [e];simp)⟩⟩
structure CP where
 w:Nat
 k:EK
 t:Option (SE×SE)
 x:SV
 l:cR
 C:Addr
 D:Addr
 it:Addr
 n0:ao
 total:List SV
inductive ES (c:Cx)(m:Str->Option Value)(ah:dN)(H:HP)(p:CP)(n:Nat)(s:Shared):Prop
 |mk {j:Nat} {aH d6:List SV} {ac:ao} {aC:List Value} {nn:Nat} {mC:Str->Option Value} (go:gH p.w p.k p.t p.x p.l H n j=some aH) (Zz:d6++aH=p.total) (now:aV c m ac ah H s) (it:jo ac ah p.x j p.it) (nD:p.D∉ac.map (·.1)) (nC:p.C∉ac.map (·.1))
  (hD:s.heap.get? p.D=some (listOf aC.toArray nn)) (hC:s.heap.Ns p.C mC) (vs:aI ac ah d6 aC) (X:br [p.it] p.n0 ah ac ah):ES c m ah H p n s
inductive K3 (c:Cx)(m:Str->Option Value)(ah:dN)(H:HP)(p:CP)(s:Shared):Prop
 |mk {ac:ao} {aC:List Value} {nn:Nat} {mC:Str->Option Value} (now:aV c m ac ah H s) (nD:p.D∉ac.map (·.1)) (nC:p.C∉ac.map (·.1)) (hD:s.heap.get? p.D=some (listOf aC.toArray nn)) (hC:s.heap.Ns p.C mC) (vs:aI ac ah p.total aC) (X:br [p.it] p.n0 ah ac ah)
  (nI:p.it∉ac.map (·.1)):K3 c m ah H p s
structure RU (c:Cx)(p:CP):Prop where
 hit:p.it∉c.X
 Nx:p.C≠c.L
 QC:c.g₀.objs.size<=p.C
 W0:p.D≠c.L
 Xx:c.g₀.objs.size<=p.D
 Nt:p.D≠p.C
 big:p.total.length<=big
theorem CR (ok:c.Ok d)(V:su c v)(hh:A.handled=none)(hu:A.units<=9000)(P:RU c p){elt tg iter:Expr}(hf:sc.kind= .function)(Dq:∀x∈ts,sc.names.lookup x=some .local)(RH:ts.Nodup)
  (hk:CK v sc ts p.k elt) (zF:rC v sc ts p.t ifs) (GX:Tg p.w tg ts) (hL:bC c v p.l m p.n0 ah) {R:Result->Shared->Prop} (fin:∀s',K3 c m ah H p s'->R (.ok .next) s') (n:Nat) (h0:ES c m ah H p n s):
  codeAny (model c.prog c.w) A (.compLoop (.ListComp elt [⟨tg,iter,ifs,0⟩] sc pos) 0 (.ref p.it) (.ref p.D) (qu c sc p.C)) R s:=by
 refine codeAny_loop rfl (ES c m ah H p) (λn s hI=> ?_) n h0
 show wpAny _ A ((compTurn (.ListComp elt [⟨tg,iter,ifs,0⟩] sc pos) 0 (.ref p.it) (.ref p.D) (qu c sc p.C)).onRaise (λx=>do noteFrame x (qu c sc p.C);theTreesLotGoes x)) _ _ s
 refine wpAny_noted ?_
 rw [compTurn_list]
 refine cps λG K=> ?_
 cases hI with
 | @mk j aH d6 ac aC nn mC h1 kL hn hi HJ HZ hD hC hv hX=>
 refine J6 hi.obj λob HH K2 KZ MO=> ?_
 have Ly:p.it∈ac.map (·.1):=hZ (f:=(·.1)) HH
 have OD:p.D≠p.it:=λe=>HJ (e▸Ly)
 have NQ:p.C≠p.it:=λe=>HZ (e▸Ly)
 cases n with
 |zero=>exact fh h1
 |succ n=>
 change (match cu p.x j H with
  |none=>none
  |some none=>some []
  |some (some y)=>(pb p.w y).bind λcv=>(o0 p.t p.l cv H).bind λb=>match b with
   |false=>gH p.w p.k p.t p.x p.l H n (j+1)
   |true=>(Lr p.k p.l cv H).bind λx=>(gH p.w p.k p.t p.x p.l H n (j+1)).map (x:: ·))=some aH at h1
 cases e:cu p.x j H with
 |none=>rw [e] at h1;exact fh h1
 |some r=>
 rw [e] at h1
 cases r with
 |none=>
  cases h1
  rw [ch] at kL
  subst kL
  have sub:∀a,a∉ac.map (·.1)->a∉(eE p.it ac).map (·.1):=λa ha hm=>by
   refine aZ (gD hm) λp hp q=> ?_
   exact ha (List.mem_map.mpr ⟨p,(bz.mp hp).1,q⟩)
  have X2:br [p.it] ac ah (eE p.it ac) ah:=AE hn.nd HH KZ
  refine K (ar (wpAny_standAt (ar (wP hh hn hi e λs' jf he=> ?_))))
  refine bu (fin _ (.mk jf (sub _ HJ) (sub _ HZ) (he _ _ OD hD) (hC.extBut he NQ) (hv.ext X2) (hX.trans X2) λhm=> ?_))
  refine aZ (gD hm) λp hp q=> ?_
  exact (bz.mp hp).2 q
 |some y=>
 refine aZ (Option.bind_eq_some_iff.mp h1) λcv b1 h1=> ?_
 refine aZ (Option.bind_eq_some_iff.mp h1) λb b2 h1=> ?_
 refine K (ar (wpAny_standAt (ar (wP hh hn hi e ?_))))
 intro n1 s1 ry cN M3 rM X1 I4 vy
 refine ar (xd cN I4 ?_)
 have WU:=hC.extBut M3 NQ
 have La:p.C∉n1.map (·.1):=by rw [rM];exact HZ
 have Pv:p.D∉n1.map (·.1):=by rw [rM];exact HJ
 have NR:=hX.trans X1
 refine ar (Dy hh hf GX Dq RH cN vy b1 WU λh2 t2 Zj LP Pu own=> ?_)
 have fI:aV c m n1 ah H {s1 with heap:=h2,toks:=t2}:=cN.off La P.Nx P.QC Pu
 have RR:h2.get? p.D=some (listOf aC.toArray nn):=Pu _ _ P.Nt (M3 _ _ OD hD)
 have rd:NU c v sc ts p.l cv p.C n1 ah h2:=YR ok V hf fI (hL.NJ P.hit NR) LP own
 refine ar (Ho ok hu fI rd zF b2 λt3=> ?_)
 refine cps λG K=> ?_
 cases b with
 |false=>exact K<|bu ⟨rfl,n,Nat.lt_succ_self n, .mk h1 kL (fI.toks t3) I4 Pv La RR LP (hv.ext X1) NR⟩
 |true=>
  refine aZ (Option.bind_eq_some_iff.mp h1) λz b3 h1=> ?_
  refine aZ (Option.map_eq_some_iff.mp h1) λUW b4 de=> ?_;subst de
  have N4:aC.toArray.size<=sizeLine:=by
   have h5:p.total.length<=4096:=P.big
   rw [<-kL,aL,hv.length] at h5
   rw [List.size_toArray,eT]
   exact cy (cy (gU _ _) h5) (by decide)
  refine K<|ar (ar (Ji ok fI rd hk b3 λn' rx s4 NV Uz Oz X4 vx=>ar (wpAny_list_append_plain ⟨nn,Uz _ _ RR⟩ (λh5 Ym Vr=>bu (bu ⟨rfl,n,Nat.lt_succ_self n, ?_⟩)) N4)))
  have fresh:∀a,a∉n1.map (·.1)->(∃o,h2.get? a=some o)->a∉n'.map (·.1):=λa ha ⟨o,ho⟩=>by
   rcases Oz with q|q<;>rw [q]
   ·exact ha
   ·rw [List.mem_cons,not_or]
    exact ⟨cW (Heap.lt_size ho),ha⟩
  have Vk:=fresh p.D Pv ⟨_,RR⟩
  have YV:=fresh p.C La (let ⟨o,_,_,ho,_⟩:=LP;⟨o,ho⟩)
  obtain ⟨n5,XO⟩:=Ym
  exact .mk (aC:=aC++ [rx]) (nn:=n5) b4 (by rw [bX];exact kL) (NV.off (t:=s4.toks) Vk P.W0 P.Xx Vr.extBut) (I4.ext X4 (by simp)) Vk YV
   (by rw [show (aC++ [rx]).toArray=aC.toArray.push rx by simp];exact XO) ((LP.keeps Uz).extBut Vr.extBut (Ne.symm P.Nt)) (((hv.ext X1).ext X4).append (.cons vx .nil)) (NR.trans X4.wide)
theorem IM (hn:aV c m ac ah H s)(hi:jo ac ah x j it)(hb:kE x=false)(q:Q (.ref it) s):wpAny (model c.prog c.w) A (pyIter (.ref it)) Q E s:=by
 cases hi with
 |list hp hm hc hd=>exact wpAny_pyIter_listiter ⟨_,hn.addr hm,hc,hd⟩ q
 |range hm ho e1 e2=>subst ho;exact wpAny_pyIter_rangeiter (hn.addr hm) q
 |bytes Ls hm hc hd=>cases hb
set_option tactic.hygienic true in
theorem uK (ok:c.Ok d)(V:su c v)(hh:A.handled=none)(hu:A.units<=9000)(hn:aV c m ac ah H s)(hL:bC c v l m ac ah)(hx:av ac ah x rx){k:EK}(hv:gm w k t x l H=some vs){elt tg iter:Expr}
  (Ih:sI v sc ts=true) (hk:CK v sc ts k elt) (zF:rC v sc ts t ifs) (GX:Tg w tg ts) (sR:stop iter=false)
  (q:∀D C az bM mC s',aV c m az bM (H++ [.list vs]) s'->br [] ac ah az bM->av az bM (.ref H.length) (.ref D)->s'.heap.Ns C mC->C∉az.map (·.1)->C≠c.L->c.g₀.objs.size<=C->compPost (model c.prog c.w) A E use Q (.ref D) C (.ok .next) s'):
  wpAny (model c.prog c.w) A (comprehension (.ListComp elt [⟨tg,iter,ifs,0⟩] sc pos) sc c.env pos' (newList []) false (pure rx) use) Q E s:=by
 unfold sI at Ih
 simp only [Bool.and_eq_true,beq_iff_eq,decide_eq_true_eq,List.all_eq_true,Bool.or_eq_true,bne_iff_ne,ne_eq] at Ih
 obtain ⟨⟨⟨⟨hf,Zy⟩,RH⟩,Dq⟩,og⟩:=Ih
 have O0:∀y∈sc.names,y.2≠ .cell:=λy hy=>(og y hy).1.1
 have MH:∀y∈sc.names,y.2= .local->sc.names.lookup y.1=some .local:=λy hy e=>((og y hy).1.2).elim (λz=>absurd e z) id
 have OJ:∀p∈sc.names,p.2= .free->∃a,c.env.cells.lookup p.1=some a:=λp hp e=>by
  rcases (og p hp).2 with z|⟨z1,z2⟩
  ·exact absurd e z
  ·obtain ⟨i,hi⟩:=Option.isSome_iff_exists.mp z2
   rcases V.kind _ _ hi with z|⟨_,a,ha⟩
   ·rw [<-V.sc,z1] at z;cases z
   ·exact ⟨a,ha⟩
 unfold gm at hv
 by_cases hb:kE x=true
 ·rw [if_pos hb] at hv;exact mZ hv
 rw [if_neg hb] at hv
 have Ls:kE x=false:=by simpa using hb
 refine aZ (Option.bind_eq_some_iff.mp hv) λYi QT hv=> ?_
 split at hv
 case isFalse=>exact mZ hv
 rename_i wb
 cases hv
 have TD:cu x 0 H≠none:=λe=>by
  rw [EX] at QT
  rw [e] at QT;exact mZ QT
 have TM:=AJ ok hn
 have Oh:c.L<s.heap.objs.size:=by
  refine hn.gE λg T F N=> ?_
  refine Q4 F.ns λo u8 u8 ho u8=> ?_
  exact Heap.lt_size ho
 have OW:c.g₀.objs.size<=s.heap.objs.size:=by
  refine hn.gE λg T F N=> ?_
  have:=F.above
  rw [T.size] at this
  exact Nat.le_of_lt (fM this Oh)
 refine wpAny_comprehension_free (cl:=qY c.env sc.names []) rfl ((pl _).fold sR _) (Il OJ) hf MH (bu (A6 hn hx TD λo s1 cN I4=> ?_))
 refine wpAny_newObj_type (wpAny_newFunctionEnv O0 (by intro y hy;simp at hy) (λh₁ zR wK=> ?_) hf)
 dsimp only at zR wK⊢
 generalize SP:s1.heap.push {cls:= .type "list",dict:=none,data:= .seq ([]:List Value).toArray}=H2 at zR wK⊢
 have hC:H2.objs.size=s1.heap.objs.size+1:=by rw [<-SP,Heap.size_push]
 have NY:s.heap.objs.size<s1.heap.objs.size:=cN.lt _ (.head _)
 have Nt:s1.heap.objs.size≠H2.objs.size:=by rw [hC];exact cW (Nat.lt_succ_self _)
 have cx:∀b o,s1.heap.get? b=some o->h₁.get? b=some o:=λb o e=>wK.extBut b o (cW (hC▸Nat.lt_succ_of_lt (Heap.lt_size e))) (fL _ (SP▸fL _ e))
 have hD:h₁.get? s1.heap.objs.size=some (listOf ([]:List Value).toArray 0):=wK.extBut _ _ Nt (fL _ (SP▸Heap.get?_push_size _ rfl))
 have fI:aV c m ((s.heap.objs.size,o)::ac) ah H {s1 with heap:=h₁,toks:=s1.toks}:=cN.grown (t:=s1.toks) cx
 have hit:s.heap.objs.size∉c.X:=λq=>Nat.lt_irrefl _ (TM _ q)
 have ox:∀a,s1.heap.objs.size<=a->a∉((s.heap.objs.size,o)::ac).map (·.1):=λa ha hm=>by
  refine aZ (gD hm) λp hp e=> ?_
  have:=cN.lt p hp
  rw [e] at this
  exact Nat.lt_irrefl _ (Nat.lt_of_lt_of_le this ha)
 have RC:c.L<s1.heap.objs.size:=dR Oh NY
 have Qs:c.g₀.objs.size<=s1.heap.objs.size:=cy OW (Nat.le_of_lt NY)
 have UU:H2.objs.size≠c.L:=by rw [hC];exact Nat.ne_of_gt (Nat.lt_succ_of_lt RC)
 have UO:c.g₀.objs.size<=H2.objs.size:=by rw [hC];exact Nat.le_succ_of_le Qs
 have loop:codeAny (model c.prog c.w) A (.compLoop (.ListComp elt [⟨tg,iter,ifs,0⟩] sc pos) 0 (.ref s.heap.objs.size) (.ref s1.heap.objs.size) (qu c sc H2.objs.size)) (compPost (model c.prog c.w) A E use Q (.ref s1.heap.objs.size) H2.objs.size) {s1 with heap:=h₁,toks:=s1.toks}:=by
  refine CR (p:=⟨w,k,t,x,l,H2.objs.size,s1.heap.objs.size,s.heap.objs.size,(s.heap.objs.size,o)::ac,vs⟩) ok V hh hu ⟨hit,UU,UO,Nat.ne_of_gt RC,Qs,Nt,wb⟩ hf Dq RH hk zF GX (hL.ext (br.cons _)) (λs3 z=> ?_) (fa x H+1)
   (.mk QT rfl fI I4 (ox _ (bS _)) (ox _ (by rw [hC];exact Nat.le_succ _)) hD zR .nil br.refl)
  cases z with
  | @mk n3 aC nn mC rZ HJ HZ V7 WG Ya X3 Ly=>
  have lN:∀p∈ah,p.1<s1.heap.objs.size/\p.2<s1.heap.objs.size:=λp hp=>by
   obtain ⟨ob,JW⟩:=cN.hr.there p hp
   have a:=cN.lt _ JW
   have b:=cN.hr.DJ p hp
   exact ⟨a,fM b a⟩
  refine rm (rZ.adopt V7 HJ lN (Nat.ne_of_gt RC) Qs Ya wb) λa1 a2 a3=> ?_
  refine q _ _ _ _ _ _ a1 ?_ a3 WG ?_ UU UO
  ·have X0:br [s.heap.objs.size] ac ah n3 ah:=(br.cons _).trans X3
   exact br.trans ⟨X0.ah,X0.sP,λp hp hq u8=>X0.cell p hp hq (by
    rw [List.mem_singleton]
    exact cW (hn.lt p hp))⟩ a2
  ·rw [dY,List.mem_cons,not_or]
   exact ⟨Ne.symm Nt,HZ⟩
 exact codeAny_compStart_list loop (IM fI I4 Ls loop)
theorem aV.Be (hn:aV c m ac ah H s){B:Addr}(hC:B∉ac.map (·.1))(hL:B≠c.L)(hg:c.g₀.objs.size<=B)(he:Heap.SameBut B s.heap h'):aV c m ac ah H {s with heap:=h' }:=hn.off (t:=s.toks) hC hL hg he.extBut
theorem ub:comprehension e sc env pos' d6 false first use=first>>=λx=>comprehension e sc env pos' d6 false (pure x) use:=rfl
theorem Id (V:su c v)(hL:bC c v l m ac ah)(hy:v.om.lookup y=some i)(hk:c.cs.names.lookup y=some .local)(hu:av ac ah u ru):bC c v (al l i u) (λz=>if z=y then some ru else m z) ac ah:=
 ⟨λz j val h1 h2 h3=>by
  by_cases e:z=y
  ·subst e
   rw [hy] at h1;cases h1
   rw [kP h2]
   exact ⟨ru,if_pos rfl,hu⟩
  ·rw [jj (pK V hy h1 (Ne.symm e))] at h2
   refine aZ (hL.loc z j val h1 h2 h3) λrv a1 a2=> ?_
   exact ⟨rv,by rw [if_neg e];exact a1,a2⟩,λz j val h1 h2 h3=>by
  have e:z≠y:=λe=>by subst e;rw [hk] at h3;cases h3
  rw [jj (pK V hy h1 (Ne.symm e))] at h2
  exact hL.Jf z j val h1 h2 h3⟩
variable {kk:Nat}{R:au}
theorem uM (ok:c.Ok d)(V:su c v)(hA:lM c n (kk+1) A){elt tg iter:Expr}{k:EK}(hy:v.om.lookup y=some i)(Nj:v.sc.names.lookup y=some .local)(Fk:(py.line==xN.line)=true)
  (Jz:(sc.names.any λp=>p.1==y&&(p.2== .local||p.2== .cell))=false) (Ih:sI v sc ts=true) (hk:CK v sc ts k elt) (zF:rC v sc ts t ifs) (GX:Tg w tg ts) (sR:stop iter=false)
  (hI:∀(Q' :Value->Shared->Prop),(∀rx s1 x H1 n1 l1 vs,aV c m n1 l1 H1 s1->bC c v l m n1 l1->av n1 l1 x rx->gm w k t x l H1=some vs->bv c v n1 l1 (.next (al l i (.ref H1.length)) (H1++ [.list vs])) Q E->Q' rx s1)->aG (model c.prog c.w) A (eval iter c.env) Q' E s):aG (model c.prog c.w) A (exec (.Assign [.Name y py] (.ListComp elt [⟨tg,iter,ifs,0⟩] sc xN) MM) c.env) Q E s:=by
 rw [V.sc] at Nj
 have V5:c.env.blockKind= .function:=by
  unfold Env.blockKind
  rw [ok.LK];rfl
 have VU:swapsWith (.ListComp elt [⟨tg,iter,ifs,0⟩] sc xN) (some (.Name y py)) MM.line c.env=pure true:=by
  show (pure (c.env.blockKind== .function&&c.env.kindOf y==some .local&&py.line==xN.line&& !(sc.names.any λp=>p.1==y&&(p.2== .local||p.2== .cell))):Sem Bool)=pure true
  rw [V5,show c.env.kindOf y=some .local from Nj,Fk,Jz]
  rfl
 rw [exec_Assign_Name_used _ _ _ _ VU]
 refine ag (aB (ag ?_))
 show aG _ A (do let _<-comprehension (.ListComp elt [⟨tg,iter,ifs,0⟩] sc xN) sc c.env _ (newList []) false (eval iter c.env) (some (assign (.Name y py) c.env))) _ _ s
 refine ag ?_
 rw [ub]
 refine ag (hI _ λrx s1 x H1 n1 l1 vs cN kO vx hv h1=> ?_)
 refine aA (Q:=λu8 s' =>Q .next s') (ap (uK ok V hA.hand (by have:=hA.units;lia) cN kO vx hv Ih hk zF GX sR λD C az bM mC s' jf X' vD hC HZ Nx QC=> ?_)) (λu8 s' q=> ?_)
 case refine_2=>exact aq (aq q)
 show wpAny _ A (assign (.Name y py) c.env (.ref D)) (λu8 oy=>∃m,oy.heap.Ns C m/\∀h',Heap.SameBut C oy.heap h'->Q .next {oy with heap:=h' }) E s'
 refine jf.gE λg T F N=> ?_
 refine wpAny_assign_Name (wpAny_storeName_local (show c.env.kindOf y=some .local from Nj) F.ns (λh2 fI L5=> ?_) (by
  show (c.cs.kind==ScopeKind.class||(c.cs.kind==ScopeKind.module&&_))=false
  rw [ok.kind];rfl))
 have fI:aV c (λz=>if z=y then some (.ref D) else m z) az bM (H1++ [.list vs]) {s' with heap:=h2,toks:=s'.toks+1}:=⟨⟨g,T,F.set fI L5,N.set L5⟩,jf.nd,jf.hr,jf.cells,jf.sh⟩
 exact ⟨mC,hC.sameBut L5 Nx,λh3 RD=>h1 _ _ _ _ (fI.Be (B:=C) HZ Nx QC RD) X'.wide (Id V (kO.ext X') hy Nj vD)⟩
theorem Df (ok:c.Ok d)(RS:d5 c n R)(V:su c v)(hA:lM c n (kk+1) A){elt tg iter:Expr}{k:EK}(hy:v.om.lookup y=some i)(Nj:v.sc.names.lookup y=some .local)(Fk:(py.line==xN.line)=true)
  (Jz:(sc.names.any λp=>p.1==y&&(p.2== .local||p.2== .cell))=false) (hit:Ck c.S v iter it) (Ih:sI v sc ts=true) (hk:CK v sc ts k elt) (zF:rC v sc ts t ifs) (GX:Tg w tg ts) (sR:stop iter=false):
  C8 c v A R (.Assign [.Name y py] (.ListComp elt [⟨tg,iter,ifs,0⟩] sc xN) MM) (.comp i w k t it):=by
 intro l m ac ah H s Q E hn hL h
 have h' :bv c v ac ah ((bj c.P R it l H).then l λu H=>match gm w k t u l H with
  |some vs=> .next (al l i (.ref H.length)) (H++ [.list vs])
  |none=> .bad) Q E:=h
 refine uM ok V hA hy Nj Fk Jz Ih hk zF GX sR (l:=l) (m:=m) λQ' K=>f9 ok RS _ _ hit hA (ez ok V hL) hn (bv.then hL h' λx H1 n1 l1 s1 rx cN X1 kO vx h1=> ?_)
 cases hv:gm w k t x l H1 with
 |none=>rw [hv] at h1;exact h1.elim
 |some vs=>
 rw [hv] at h1
 exact K _ _ _ _ _ _ _ cN kO vx hv h1
set_option tactic.hygienic true in
theorem wo (ok:c.Ok d)(RS:d5 c n R)(V:su c v)(hA:lM c n (kk+1) A){elt tg iter:Expr}{k:EK}(hy:gq v y i=true)(hit:Ck c.S v iter it)(Ih:sI v sc ts=true)(hk:CK v sc ts k elt)(GX:Tg w tg ts)(sR:stop iter=false):
  C8 c v A R (.Assign [.Name y py] (.BinOp (.Name y zp) .Add (.ListComp elt [⟨tg,iter, [],0⟩] sc xN) WX) MM) (.lb i w k it):=by
 intro l m ac ah H s Q E hn hL h
 change bv c v ac ah (match l[i]? with
  |some (some (.ref r))=>(bj c.P R it l H).then l λv H=>match gm w k none v l H with
   |some vs=>(match H[r]? with
    |some (.list cx)=>if cx.length+vs.length<=big then .next (al l i (.ref (H.length+1))) ((H++ [.list vs])++ [.list (cx++vs)]) else .bad
    |_=> .bad)
   |none=> .bad
  |_=> .bad) Q E at h
 split at h
 case h_2=>exact h.elim
 rename_i r hl
 have YE:v.om.lookup y=some i:=by
  unfold gq at hy
  simp only [Bool.and_eq_true,beq_iff_eq] at hy
  exact hy.1.1
 refine AZ ((pl _).swap rfl _ _ _) rfl rfl (Je ?_)
 refine aZ ((ez ok V hL).loc y i _ hy hl ac ah br.refl) λrv vr hr=> ?_
 refine ap (hr _ _ _ _ _ _ hn ?_)
 rw [eval_ListComp]
 show aG _ A (comprehension (.ListComp elt [⟨tg,iter, [],0⟩] sc xN) sc c.env _ (newList []) false (eval iter c.env) none) _ E s
 rw [ub]
 refine ag (f9 ok RS _ _ hit hA (ez ok V hL) hn (bv.then hL h λx H1 n1 l1 s1 rx cN X1 kO vx h1=> ?_))
 cases hv:gm w k none x l H1 with
 |none=>rw [hv] at h1;exact h1.elim
 |some vs=>
 rw [hv] at h1
 dsimp only at h1
 split at h1
 case h_2=>exact h1.elim
 rename_i cx hold
 split at h1
 case isFalse=>exact h1.elim
 rename_i wb
 have lN:=(gw hold).1
 refine ap (uK ok V hA.hand (by have:=hA.units;lia) cN kO vx hv Ih hk rC.none GX sR λD C az bM mC s' jf X' vD hC HZ Nx QC=>⟨mC,hC,λh3 RD=> ?_⟩)
 have rZ:=jf.Be (B:=C) HZ Nx QC RD
 have hb:cE .add (.ref r) (.ref H1.length) (H1++ [.list vs])= .ok (.ref (H1.length+1)) ((H1++ [.list vs])++ [.list (cx++vs)]):=by
  unfold cE
  dsimp only
  rw [iM lN,hold,eG (bS _)]
  simp only [Nat.sub_self,List.getElem?_cons_zero,if_pos wb,aL,List.length_singleton]
 refine ap (Ey (op:= .add) ok rZ ((vr.ext X1).ext X') vD hb λn4 l4 s4 Zu NV X4 v4=> ?_)
 exact KQ (ap (jE ok V NV (kO.ext (X'.trans X4)) YE v4 λm' n5 s5 Ta X5 Yp=>h1 _ _ _ _ Ta ((X'.trans X4).wide.trans X5) Yp))
end
section
variable {c:Cx}{d n k:Nat}{v:CV}{A:Around}{R:au}{X:Nat->Bool}
structure Cr (c:Cx)(d n k:Nat)(R:au)(v:CV)(X:Nat->Bool)(A:Around):Prop where
 ok:c.Ok d
 RS:d5 c n R
 V:su c v
 same:A=c.A
 A:lM c n (k+1) A
 exc:∀j,X j=true->i8 c.K (c.S.dD j)=true
theorem Gs (ok:c.Ok d):interactive c.env=false:=by
 unfold interactive
 rw [ok.LK];rfl
structure GS (c:Cx)(v:CV)(A:Around)(R:au)(x:Stmt)(st:SS):Prop where
 g:C8 c v A R x st
structure BS (c:Cx)(v:CV)(A:Around)(R:au)(xs:List Stmt)(ss:cA):Prop where
 g:t7 c v A xs (λl H=>aK c.P R ss l H)
theorem ML (O:Cr c d n k R v X A)(h1:nT x=false)(h2:Ck c.S v x e):C8 c v A R (.Expr x p) (.expr e):=by
 intro l m ac ah H s Q E hn hL h
 have h' :bv c v ac ah ((bj c.P R e l H).then l λv H=>match v with| .none=> .next l H| .int _=> .next l H| .bytes _=> .next l H|_=> .bad) Q E:=h
 refine P9 (Gs O.ok) ((pl _).swap h1 _ _ _) (f9 O.ok O.RS e _ h2 O.A (ez O.ok O.V hL) hn (bv.then hL h' λu H1 n1 l1 s1 ru cN X1 kO vu h1=> ?_))
 cases vu with
 |none=>exact ⟨λa e=>(by cases e),h1 _ _ _ _ cN br.refl kO⟩
 |int i t=>exact ⟨λa e=>(by cases e),h1 _ _ _ _ cN br.refl kO⟩
 |bytes dm t _ _=>exact ⟨λa e=>(by cases e),h1 _ _ _ _ cN br.refl kO⟩
 |_=>exact h1.elim
theorem Qz (O:Cr c d n k R v X A)(h2:Ck c.S v x e):C8 c v A R (.Return (some x) p) (.ret e):=by
 intro l m ac ah H s Q E hn hL h
 have h' :bv c v ac ah ((bj c.P R e l H).then l λv H=> .ret v H) Q E:=h
 exact Js (f9 O.ok O.RS e _ h2 O.A (ez O.ok O.V hL) hn (bv.then hL h' λu H1 n1 l1 s1 ru cN X1 kO vu h1=>h1 _ _ _ _ _ cN br.refl vu))
theorem Ol (O:Cr c d n k R v X A)(h1:Ck c.S v x t)(h2:BS c v A R xs a)(h3:BS c v A R ys b):C8 c v A R (.If x xs ys p) (.ifs t a b):=by
 intro l m ac ah H s Q E hn hL h
 have h' :bv c v ac ah ((gK c.P R t l H).then l λt H=>match t with|true=>aK c.P R a l H|false=>aK c.P R b l H) Q E:=h
 refine W3 (DK O.ok O.RS t _ h1 O.A (ez O.ok O.V hL) hn (bv.then hL h' λu H1 n1 l1 s1 ru cN X1 kO vu h4=> ?_))
 cases vu
 cases u with
 |true=>exact h2.g cN kO h4
 |false=>exact h3.g cN kO h4
theorem Pt (O:Cr c d n k R v X A){tg x:Expr}(h1:stop x=false)(h2:CT v tg is)(h3:Ck c.S v x it)(h4:BS c v A R xs b):C8 c v A R (.For tg x xs [] p) (.je is it b):=by
 intro l m ac ah H s Q E hn hL h
 have h' :bv c v ac ah ((bj c.P R it l H).then l λu H=>forLoop is (λl H=>aK c.P R b l H) u (fa u H+1) 0 l H) Q E:=h
 refine RB h1 (f9 O.ok O.RS it _ h3 O.A (ez O.ok O.V hL) hn (bv.then hL h' λu H1 n1 l1 s1 ru cN X1 kO vu h5=> ?_))
 have hs:cu u 0 H1≠none:=λe=>by
  rw [gu] at h5
  rw [e] at h5;exact h5
 refine ap (A6 cN vu hs λo s' jf hi=> ?_)
 have hit:s1.heap.objs.size∉c.X:=λq=>Nat.lt_irrefl _ (AJ O.ok cN _ q)
 have hX:br c.X n1 l1 (eE s1.heap.objs.size ((s1.heap.objs.size,o)::n1)) l1:=⟨⟨[],(ch _).symm⟩,λp hp u8=>bz.mpr ⟨.tail _ hp,cW (cN.lt p hp)⟩,λp hp u8 u8=>bz.mpr ⟨.tail _ hp,cW (cN.lt p hp)⟩⟩
 exact tm O.ok O.V O.A.hand h2 h4.g hit _ 0 jf (kO.ext (br.cons _)) hi hX h5
theorem MY (O:Cr c d n k R v X A)(h1:Ck c.S v x t)(h2:BS c v A R xs b):C8 c v A R (.While x xs [] p) (.yo t b):=by
 intro l m ac ah H s Q E hn hL h
 have h' :bv c v ac ah (whileLoop (λl H=>gK c.P R t l H) (λl H=>aK c.P R b l H) 64 l H) Q E:=h
 exact ME (tG O.ok h2.g (λhn hL h=>DK O.ok O.RS t _ h1 O.A (ez O.ok O.V hL) hn h) 64 hn hL br.refl h')
theorem Fc (O:Cr c d n k R v X A){ev:Value}
  (h1:eg v xx=true) (q:c.S.glob.lookup xx=some (.cls kq)) (h3:X kq=true) (h5:Ch c.S X v kq hs hh) (PB:CI c az bM H s') (X1:br c.X ac ah az bM) (kO:bC c v l' m' az bM) (F3:kG c m' kq az ev s') (h' :bv c v ac ah (KX hh l' H) Q E):
  aG (model c.prog c.w) A (noteFrame ev c.env) (λu8 s₂=>aG (model c.prog c.w) A (setFlight ev none) (λu8 s₃=>aG (model c.prog c.w) A (handleBy ev c.env [.ExceptHandler (some (.Name xx np)) none hs p1]) Q E s₃) E s₂) E s' :=by
 have lF:∃b0 r0,hs=b0::r0:=by
  cases h5<;>exact ⟨_,_,rfl⟩
 refine zx lF λb0 r0 de=> ?_;clear lF;subst de
 have hg:=h1
 unfold eg at hg
 simp only [Bool.and_eq_true,beq_iff_eq,bne_iff_ne,ne_eq] at hg
 rw [O.V.sc] at hg
 refine ap (wpAny_mono (Ca O.ok O.A.frames PB F3 (O.exc _ h3) hg.1 (eS hg.2) (O.ok.mM.EP _ _ q) (np:=np) (pos:=p1) (aH:= []) (Q:=Q) (E:=E) λe Kn he Lg jf=> ?_) (λu8 u8 z=>ap (wpAny_mono z (λu8 u8 z=>ap z) λu8 u8 z=>z)) λu8 u8 z=>z)
 by_cases hr:∃k',hh= .raise k'
 ·obtain ⟨k',rfl⟩:=hr
  cases h5 with
  |raise x p s k q' r t j a1 a2 a3 a4 a5 a6=>
   unfold eg at a1
   simp only [Bool.and_eq_true,beq_iff_eq,bne_iff_ne,ne_eq] at a1
   rw [O.V.sc] at a1
   exact LN O.ok (O.V.EN a6) jf (Lg a5) (O.exc _ a3) a4 a1.1 (eS a1.2) (O.ok.mM.EP _ _ a2) (λev s' nr lv=>(bv.base X1 h') _ _ s' ev nr br.refl lv) O.same
 ·exact wpAny_mono (Lz O.ok O.V h5 (λk e=>hr ⟨k,e⟩) jf kO (bv.base X1 h')) (λu8 u8 z=>z) λu8 u8 z=>z.elim
set_option tactic.hygienic true in
theorem OH (O:Cr c d n k R v X A)(h1:eg v xx=true)(h2:c.S.glob.lookup xx=some (.cls j))(h3:X j=true)(h4:BS c v A R xs b)(h5:Ch c.S X v j hs hh):
  C8 c v A R (.Try xs [.ExceptHandler (some (.Name xx np)) none hs p1] [] [] p2) (.lH b j hh):=by
 intro l m ac ah H s Q E hn hL h
 have h' :bv c v ac ah (match aK c.P R b l H with
  | .exc c' l H=>if c' =j then KX hh l H else .bad
  | .jw _ _=> .bad
  |o=>o) Q E:=h
 refine S3 rfl (h4.g hn hL ?_)
 show bv c v ac ah (aK c.P R b l H) _ _
 cases eo:aK c.P R b l H with
 |next l1 H1=>rw [eo] at h';exact h'
 |cont l1 H1=>rw [eo] at h';exact h'
 |ret x1 H1=>rw [eo] at h';exact h'
 |jw _ _=>rw [eo] at h';exact h'.elim
 |bad=>rw [eo] at h';exact h'.elim
 |exc k1 l1 H1=>
  rw [eo] at h'
  dsimp only at h'
  split at h'
  ·rename_i hk
   subst hk
   exact λm1 n1 y1 s1 ev PB X1 kO F3=>Fc O h1 h2 h3 h5 PB X1 kO F3 h'
  ·exact h'.elim
theorem Lb (O:Cr c d n k R v X A){st:SS}(h1:GS c v A R x st)(h2:BS c v A R xs r):t7 c v A (x::xs) (λl H=>aK c.P R (.cons st r) l H):=by
 intro l m ac ah H s Q E hn hL h
 have h' :bv c v ac ah (match gJ c.P R st l H with| .next l H=>aK c.P R r l H|o=>o) Q E:=h
 refine KG (h1.g hn hL ?_)
 show bv c v ac ah (gJ c.P R st l H) _ _
 cases eo:gJ c.P R st l H with
 |next l1 H1=>
  rw [eo] at h'
  exact λm1 n1 y1 s1 cN X1 kO=>h2.g cN kO (bv.base X1 h')
 |cont l1 H1=>rw [eo] at h';exact h'
 |ret x1 H1=>rw [eo] at h';exact h'
 |exc _ _ _=>rw [eo] at h';exact h'
 |jw _ _=>rw [eo] at h';exact h'
 |bad=>rw [eo] at h';exact h'.elim
structure Cs (S:ls)(X:Nat->Bool)(v:CV)(x:Stmt)(st:SS):Prop where
 s:∀{c:Cx} {d n k:Nat} {A:Around} {R:au},Cr c d n k R v X A->c.S=S->GS c v A R x st
structure xt (S:ls)(X:Nat->Bool)(v:CV)(xs:List Stmt)(ss:cA):Prop where
 s:∀{c:Cx} {d n k:Nat} {A:Around} {R:au},Cr c d n k R v X A->c.S=S->BS c v A R xs ss
end
section
variable {S:ls}{X:Nat->Bool}{v:CV}
theorem Cs.bad (x):Cs S X v x .bad:=⟨λO hS=>⟨λu8 u8 h=>h.elim⟩⟩
theorem Cs.pass (p):Cs S X v (.Pass p) .pass:=⟨λO hS=>⟨λhn hL h=>Qa (h _ _ _ _ hn br.refl hL)⟩⟩
theorem Cs.cont (p):Cs S X v (.Continue p) .cont:=⟨λO hS=>⟨λhn hL h=>Pg (h _ _ _ _ hn br.refl hL)⟩⟩
theorem Cs.expr (x p e)(h1:nT x=false)(h2:Ck S v x e):Cs S X v (.Expr x p) (.expr e):=⟨λO hS=>⟨ML O h1 (hS▸h2)⟩⟩
theorem Cs.j4 (t x p u e)(h1:nT x=false)(h2:Ck S v x e)(h3:Ct S v t x u):Cs S X v (.Assign [t] x p) (.j4 u e):=⟨λO hS=>⟨Cf O.ok O.RS O.V O.A h1 (hS▸h2) (hS▸h3)⟩⟩
theorem Cs.comp (y py elt tg ts iter ifs sc lp sp i w k t it)(h1:v.om.lookup y=some i)(h2:v.sc.names.lookup y=some .local)(h3:(py.line==lp.line)=true)(h4:(sc.names.any λp=>p.1==y&&(p.2== .local||p.2== .cell))=false)(h5:Ck S v iter it)(h6:sI v sc ts=true)(h7:CK v sc ts k elt)(h8:rC v sc ts t ifs)(h9:Tg w tg ts)(DD:stop iter=false):Cs S X v (.Assign [.Name y py] (.ListComp elt [⟨tg,iter,ifs,0⟩] sc lp) sp) (.comp i w k t it):=⟨λO hS=>⟨Df O.ok O.RS O.V O.A h1 h2 h3 h4 (hS▸h5) h6 h7 h8 h9 DD⟩⟩
theorem Cs.lb (y py zp elt tg ts iter sc lp bp sp i w k it)(h1:gq v y i=true)(h5:Ck S v iter it)(h6:sI v sc ts=true)(h7:CK v sc ts k elt)(h9:Tg w tg ts)(DD:stop iter=false):Cs S X v (.Assign [.Name y py] (.BinOp (.Name y zp) .Add (.ListComp elt [⟨tg,iter, [],0⟩] sc lp) bp) sp) (.lb i w k it):=⟨λO hS=>⟨wo O.ok O.RS O.V O.A h1 (hS▸h5) h6 h7 h9 DD⟩⟩
theorem Cs.pO (x p y q i op e)(h1:gq v x i=true)(h2:tE op=true)(h3:Ck S v y e):Cs S X v (.AugAssign (.Name x p) (lI op) y q) (.pO i op e):=⟨λO hS=>⟨BR O.ok O.RS O.V O.A h1 h2 (hS▸h3)⟩⟩
theorem Cs.tF (o p y q a op b e)(h1:tE op=true)(h2:Ck S v o b)(h3:Ck S v y e):Cs S X v (.AugAssign (.Attribute o (S.attr a) p) (lI op) y q) (.tF b a op e):=⟨λO hS=>hS▸⟨Dx O.ok O.RS O.V O.A (hS▸h2) h1 (hS▸h3)⟩⟩
theorem Cs.ret (x p e)(h:Ck S v x e):Cs S X v (.Return (some x) p) (.ret e):=⟨λO hS=>⟨Qz O (hS▸h)⟩⟩
theorem Cs.ifs (x xs ys p t a b)(h1:Ck S v x t)(h2:xt S X v xs a)(h3:xt S X v ys b):Cs S X v (.If x xs ys p) (.ifs t a b):=⟨λO hS=>⟨Ol O (hS▸h1) (h2.s O hS) (h3.s O hS)⟩⟩
theorem Cs.je (t x xs p is it b)(h1:stop x=false)(h2:CT v t is)(h3:Ck S v x it)(h4:xt S X v xs b):Cs S X v (.For t x xs [] p) (.je is it b):=⟨λO hS=>⟨Pt O h1 h2 (hS▸h3) (h4.s O hS)⟩⟩
theorem Cs.yo (x xs p t b)(h1:Ck S v x t)(h2:xt S X v xs b):Cs S X v (.While x xs [] p) (.yo t b):=⟨λO hS=>⟨MY O (hS▸h1) (h2.s O hS)⟩⟩
theorem Cs.raise (x p m q r k e)(h1:eg v x=true)(h2:S.glob.lookup x=some (.cls k))(h3:X k=true)(h4:stop m=false)(h5:Ck S v m e)(h6:ww v=true):Cs S X v (.Raise (some (.Call (.Name x p) [m] [] q)) none r) (.raise k e):=⟨λO hS=>⟨λhn hL h=>zV O.ok O.RS O.A O.V (O.V.EN h6) (O.exc _ h3) h1 (hS▸h2) h4 (hS▸h5) hn hL h⟩⟩
theorem Cs.lH (xs x p hs q r k b h)(h1:eg v x=true)(h2:S.glob.lookup x=some (.cls k))(h3:X k=true)(h4:xt S X v xs b)(h5:Ch S X v k hs h):Cs S X v (.Try xs [.ExceptHandler (some (.Name x p)) none hs q] [] [] r) (.lH b k h):=⟨λO hS=>⟨OH O h1 (hS▸h2) h3 (h4.s O hS) (hS▸h5)⟩⟩
theorem Cs.del (o j p q a i)(h1:Ck S v o a)(h2:Ck S v j i):Cs S X v (.Delete [.Subscript o j p] q) (.del a i):=⟨λO hS=>⟨Gf O.ok O.RS O.V O.A (hS▸h1) (hS▸h2)⟩⟩
theorem xt.nil:xt S X v [] .nil:=⟨λO hS=>⟨λhn hL h=>Kd (h _ _ _ _ hn br.refl hL)⟩⟩
theorem xt.cons (x xs s ss)(h1:Cs S X v x s)(h2:xt S X v xs ss):xt S X v (x::xs) (.cons s ss):=⟨λO hS=>⟨Lb O (h1.s O hS) (h2.s O hS)⟩⟩
end
section
variable {c:Cx}{d n k:Nat}{v:CV}{A:Around}{R:au}{X:Nat->Bool}
theorem Bl (O:Cr c d n k R v X A)(ss:cA)(xs:List Stmt)(h:xt c.S X v xs ss):t7 c v A xs (λl H=>aK c.P R ss l H):=(h.s O rfl).g
end
end Mine
open PySem PySem.W PySem.Calls PyProof.Rows
namespace Mine
theorem yE {xs:List (Str×Value)}(h:x∉xs.map (·.1)):xs.lookup x=none:=by
 induction xs with
 |nil=>rfl
 |cons p l ih=>
  rw [List.lookup_cons,eS λe=>h (List.mem_cons.mpr (.inl e))]
  exact ih λq=>h (.tail _ q)
theorem yx {xs:List (Str×Value)}(h:x∈xs.map (·.1)):(xs.lookup x).isNone=false:=by
 induction xs with
 |nil=>exact jZ h
 |cons p l ih=>
  rw [List.lookup_cons]
  by_cases e:x=p.1
  ·rw [e,iV];rfl
  ·rw [eS e]
   exact ih ((cH h).resolve_left e)
theorem Cb {xs:List (Str×Value)}(nd:(xs.map (·.1)).Nodup)(hp:p∈xs):xs.lookup p.1=some p.2:=by
 induction xs with
 |nil=>exact jZ hp
 |cons q l ih=>
  have hq:=List.nodup_cons.mp nd
  rw [List.lookup_cons]
  rcases cH hp with rfl|hp
  ·rw [iV]
  ·have hm:p.1∈l.map (·.1):=hZ (f:=(·.1)) hp
   rw [eS λe=>hq.1 (show q.1∈l.map (·.1) by rw [<-e];exact hm)]
   exact ih hq.2 hp
theorem Kt {α:Type}{g:α->Option α}:∀{l:List α},(∀p∈l,g p=some p)->l.filterMap g=l
 | [],_=>rfl
 |p::l,h=>by rw [List.filterMap_cons,h p (.head _),Kt λq hq=>h q (.tail _ hq)]
theorem wI {xs:List (Str×Value)}(nd:(xs.map (·.1)).Nodup):(xs.map (·.1)).filterMap (λn=>(xs.lookup n).map (n, ·))=xs:=by
 rw [List.filterMap_map]
 exact Kt λp hp=>congrArg (Option.map (p.1, ·)) (Cb nd hp)
theorem Cv {α β:Type}{vs dv:List β}:∀{ns:List α},ns.length=vs.length+dv.length->ns.zip vs++(ns.drop vs.length).zip dv=ns.zip (vs++dv):=by
 induction vs with
 |nil=>intro ns _;cases ns<;>rfl
 |cons v vs ih=>
  intro ns h
  cases ns with
  |nil=>exact absurd h (by rw [dq,List.length_nil];lia)
  |cons n ns=>exact congrArg ((n,v):: ·) (ih (Nat.succ.inj (h.trans (Nat.add_right_comm _ 1 _))))
theorem M4 {γ:Type}{k:List (Str×Value)->Sem γ}(xs:List (Str×Value)):∀(s:List (Str×Value)),((s++xs).map (·.1)).Nodup->(forIn xs s (λx s=>if (s.lookup x.1).isNone=true then (pure (ForInStep.yield (s++ [(x.1,x.2)])):Sem _) else pure (ForInStep.yield s))>>=k)=k (s++xs):=by
 induction xs with
 |nil=>intro s _;rw [ch];rfl
 |cons x xs ih=>
  intro s nd
  rw [List.forIn_cons,if_pos]
  ·rw [show s++x::xs=(s++ [x])++xs from (bX s [x] xs).symm] at nd⊢
   exact ih _ nd
  ·rw [eJ] at nd
   rw [yE λh=>(List.nodup_append.mp nd).2.2 _ h _ (.head _) rfl];rfl
theorem I9 {α β:Type}{vs:List β}:∀{ns:List α},vs.length<=ns.length->(ns.zip vs).map (·.1)=ns.take vs.length:=by
 induction vs with
 |nil=>intro ns _;cases ns<;>rfl
 |cons v vs ih=>
  intro ns h
  cases ns with
  |nil=>exact absurd h (Nat.not_succ_le_zero _)
  |cons n ns=>exact congrArg (n:: ·) (ih (Nat.le_of_succ_le_succ h))
theorem z5 {ns:List Str}{vs:List Value}(h:vs.length<=ns.length):¬(!((ns.take vs.length).filter λn=>((ns.zip vs).lookup n).isNone).isEmpty)=true:=by
 rw [List.filter_eq_nil_iff.mpr λx hx=>by rw [yx (I9 h▸hx)];exact Bool.false_ne_true]
 exact Bool.false_ne_true
theorem n9 {fd:FuncData}{as:List Arg}{vs:List Value}(hp:fd.params=⟨[],as,none, [], [],none,ds⟩)(nd:(as.map (·.arg)).Nodup):
  ∃k:Option (Array Value)->Sem (List (Str×Value)),bindArgs fd ⟨vs, []⟩=(seqItems? fd.defaults>>=k)/\∀r,as.length=vs.length+(r.getD #[]).toList.length->k r=pure ((as.map (·.arg)).zip (vs++(r.getD #[]).toList)):=by
 unfold bindArgs
 rw [hp]
 dsimp only
 rw [<-bI (f:=(·.arg)) (as:=as)]
 generalize as.map (·.arg)=ns at*
 refine ⟨_,pure_bind _ _,λr hl=> ?_⟩
 have St:=Cv hl
 have nz:(ns.zip (vs++(r.getD #[]).toList)).map (·.1)=ns:=List.map_fst_zip (by rw [aL];exact Nat.le_of_eq hl)
 have hle:vs.length<=ns.length:=hl▸gU _ _
 have h2:=z5 hle
 have hD:List.drop ((r.getD #[]).toList.length - ns.length) (r.getD #[]).toList=(r.getD #[]).toList:=by rw [Nat.sub_eq_zero_of_le (hl▸Nat.le_add_left _ _)];rfl
 have hz:ns.length - (List.drop ((r.getD #[]).toList.length - ns.length) (r.getD #[]).toList).length=vs.length:=by rw [hD];exact Nat.sub_eq_of_eq_add hl
 have hX:ns.zip vs++(ns.drop (ns.length - (List.drop ((r.getD #[]).toList.length - ns.length) (r.getD #[]).toList).length)).zip (List.drop ((r.getD #[]).toList.length - ns.length) (r.getD #[]).toList)=ns.zip (vs++(r.getD #[]).toList):=by rw [hz,hD];exact St
 refine (if_neg (show ¬(decide (vs.length>ns.length)&&true)=true by rw [aR (Nat.not_lt.mpr hle)];exact Bool.false_ne_true)).trans ?_
 refine (if_neg (show ¬(!((ns.take (ns.length - (List.drop ((r.getD #[]).toList.length - ns.length) (r.getD #[]).toList).length)).filter λn=>((ns.zip vs).lookup n).isNone).isEmpty)=true by rw [hz];exact h2)).trans ?_
 refine (M4 _ _ (show ((ns.zip vs++(ns.drop (ns.length - (List.drop ((r.getD #[]).toList.length - ns.length) (r.getD #[]).toList).length)).zip (List.drop ((r.getD #[]).toList.length - ns.length) (r.getD #[]).toList)).map (·.1)).Nodup by rw [hX,nz];exact nd)).trans ?_
 refine (pure_bind _ _).trans (congrArg pure ?_)
 show (ns++ []).filterMap (λn=>((ns.zip vs++(ns.drop (ns.length - (List.drop ((r.getD #[]).toList.length - ns.length) (r.getD #[]).toList).length)).zip (List.drop ((r.getD #[]).toList.length - ns.length) (r.getD #[]).toList)).lookup n).map (n, ·))=_
 rw [hX,ch]
 have h:=wI (xs:=ns.zip (vs++(r.getD #[]).toList)) (nz.symm▸nd)
 rw [nz] at h
 exact h
theorem Ff (hp:fd.params=⟨[],as,none, [], [],none,ds⟩)(hd:fd.defaults= .none)(hl:as.length=vs.length)(nd:(as.map (·.arg)).Nodup):
  bindArgs fd ⟨vs, []⟩=pure ((as.map (·.arg)).zip vs):=by
 refine aZ (n9 (vs:=vs) hp nd) λk h1 h2=> ?_
 rw [h1,hd]
 exact (pure_bind none k).trans ((h2 none hl).trans (by rw [show (Option.getD none #[]:Array Value).toList= [] from rfl,ch]))
theorem Ix (hp:fd.params=⟨[],as++ [a],none, [], [],none,ds⟩)(hd:fd.defaults= .ref T)
  (ho:s.heap.get? T=some o) (hs:o.data= .seq #[d] n) (hl:as.length=vs.length) (nd:((as++ [a]).map (·.arg)).Nodup):
  BindsTo s fd ⟨vs, []⟩ (((as++ [a]).map (·.arg)).zip (vs++ [d])):=by
 refine aZ (n9 (vs:=vs) hp nd) λk h1 h2=> ?_
 exact .of_defaults hd ho hs h1 (h2 (some #[d]) (by rw [aL,hl];rfl))
end Mine
namespace Mine
open PySem PySem.W PySem.Calls PyProof.Rows PySem.Spec
noncomputable def fF (fd:FuncData):List Str:=
 let ps:=fd.params.args.map (·.arg)
 ps++((fd.scope.names.filter λp=>(p.2== .local||p.2== .cell)&& !ps.contains p.1).map (·.1))
noncomputable def s9 (fd:FuncData):CV:=⟨(fF fd).zipIdx,fd.scope⟩
inductive tH (K:Frag):Value->List SV->Prop where
 |no:tH K .none []
 |one {T:Addr} {o:Obj} {j:Int} {t} {n:Nat} (h:K.lookup T=some o) (hd:o.data= .seq #[.int j t] n):tH K (.ref T) [.int j]
structure rE (K:Frag)(S:ls)(X:Nat->Bool)(fd:FuncData)(fi:Fn):Prop where
 gl:fd.globals=mainGlobals
 Wn:fd.closure= []
 bi:fd.builtins=builtinsNs
 code:codeIn K fd.code fd.qualname=true
 co:fd.scope.isCoroutine=false
 gen:fd.scope.isGenerator=false
 kind:fd.scope.kind= .function
 par:fd.params=⟨[],fd.params.args,none, [], [],none,fd.params.defaults⟩
 na:fi.fX=fd.params.args.length
 nl:fi.n8=(fF fd).length
 nd:(fF fd).Nodup
 sl:∀x∈fF fd,fd.scope.names.lookup x=some .local∨fd.scope.names.lookup x=some .cell
 pl:∀a∈fd.params.args,fd.scope.names.lookup a.arg=some .local
 cn:((cellsFrom 0 fd.scope.names []).map (·.1)).Nodup
 cs:fi.cells=false->(fd.scope.names.all λp=>p.2 != .cell)=true
 df:tH K fd.defaults fi.dflt
 t:∃b,fd.body= .stmts b/\xt S X (s9 fd) b fi.body
theorem DX (Wr:∀b∈fs,∃o,g.get? b=some o)(F:Fr g L G m)(T:KtsTurn (L::fs) G G'):∃g',KtsTurn fs g g' /\Fr g' L G' m:=by
 have nL:g.get? L=none:=kts_self F
 obtain ⟨T₁,S₁⟩:=kts_turn_at (h:=G') (fs:=fs) (g:=g) Wr
  (λb o e nm=>T.other b o (F.keep b o e) λq=>by
   rcases cH q with z|z
   ·rw [z,nL] at e;exact mZ e
   ·exact nm z)
  (λb o e hm=>T.frame b o (F.keep b o e) (.tail _ hm))
 refine HW F.ns λoL es ep hL hd hk hf=> ?_
 obtain ⟨sl,hs⟩:=T.frame L oL hL (.head _)
 exact ⟨_,T₁,⟨⟨_,es,ep,hs,hd,hk,hf⟩,S₁,by rw [T₁.size];exact F.above⟩⟩
theorem Fr.up (F:Fr g L G m)(F' :Fr G L' h m'):Fr g L h m:=by
 refine HW F.ns λoL es ep hL hd hk hf=> ?_
 exact ⟨⟨oL,es,ep,F'.keep _ _ hL,hd,hk,hf⟩,λb o e=>F'.keep b o (F.keep b o e),F.above⟩
theorem News.up (F:Fr g L G m)(N:News G L' h ac):News g L h ac:=λp hp=>by
 have P:=N p hp
 refine ⟨P.1,λq=> ?_, ?_⟩
 ·refine Q4 F.ns λoL es ep hL u8=> ?_
  have:=P.2.2;rw [q,hL] at this;exact GG this
 ·cases q:g.get? p.1 with
  |none=>rfl
  |some o=>have:=P.2.2;rw [F.keep _ _ q] at this;exact GG this
theorem BP {kindOf:Str->Option NameKind}(h:∀p∈bs,p.1≠x):bindL kindOf bs m x=m x:=by
 induction bs generalizing m with
 |nil=>rfl
 |cons p r ih=>
  obtain ⟨n,v⟩:=p
  unfold bindL
  rw [ih λp hp=>h p (.tail _ hp)]
  split
  ·exact if_neg λe=>h (n,v) (.head _) e.symm
  ·rfl
theorem yC {kindOf:Str->Option NameKind}(nd:(bs.map (·.1)).Nodup)(hm:(x,v)∈bs)(hk:kindOf x=some .local):bindL kindOf bs m x=some v:=by
 induction bs generalizing m with
 |nil=>exact jZ hm
 |cons p r ih=>
  obtain ⟨n,u⟩:=p
  have nd:=List.nodup_cons.mp nd
  unfold bindL
  rcases cH hm with e|hm
  ·cases e
   rw [BP λp hp e=>nd.1 (by rw [<-e];exact hZ (f:=(·.1)) hp),if_pos hk,if_pos rfl]
  ·exact ih nd.2 hm
theorem C1 (h:CellsAre cm cs cells)(x:Str)(a:Addr)(hm:(x,a)∈cs):∃o,(a,o)∈cells/\o.data= .cell (cm x):=by
 induction h with
 |nil=>exact jZ hm
 |cons hd t ih=>
  rcases cH hm with e|hm
  ·cases e;exact ⟨_, .head _,hd⟩
  ·refine aZ (ih hm) λo a1 a2=> ?_
   exact ⟨o, .tail _ a1,a2⟩
theorem ua (h:CellsAre cm cs cells):cells.map (·.1)=cs.map (·.2):=by
 induction h with
 |nil=>rfl
 |cons hd t ih=>rw [dY,dY,ih]
theorem fG.Ks {S:ls}(h:fG prog w S ac ah H):∀(l:ao),fG prog w S (l++ac) ah H
 | []=>h
 |p::l=>(fG.Ks h l).more p
end Mine
set_option maxHeartbeats 4000000
namespace Mine
open PySem PySem.W PySem.Calls PyProof.Rows PySem.Spec
section
variable {prog:Program}{w:World}{A:Around}{s:Shared}{R:Result->Shared->Prop}
theorem zq (h:aG (model prog w) (A.deeper env) (execs body env) (λf s' =>R (.ok (.ret (match f with| .ret v=>v|_=> .none))) s')
   (λe s' =>aG (model prog w) (A.deeper env) (leaving env e) (λu8 oy=>R (.error e) oy) (λe' oy=>R (.error e') oy) s') s):fe (model prog w) A (.func body env) R s:=by
 refine dI ?_
 show aG _ (A.deeper env) (do point;match<-(execs body env).onRaise (leaving env) with| .ret v=>ret v|_=>ret .none) _ _ s
 refine ag (uR (ag (gk (gG h (λf s' h' => ?_) λu8 u8 h' =>h'))))
 cases f<;>exact aq h'
theorem m0 (PK:A.depth<recursionLimit)(ho:s.heap.get? a=some o)(Cg:o.data= .func fd)(Zb:fd.scope.isCoroutine=false)(R5:fd.scope.isGenerator=false)
  (BK:fd.body= .stmts body) (UI:s.heap.CodeRec fd.code fd.qualname)
  (h:aG (model prog w) A.in1 (bindArgs fd args) (λbinds s₁=>aG (model prog w) A.in1 (newFunctionEnv fd.scope fd.globals fd.closure binds (fd.qualname++ ".<locals>.") (some a) fd.code none fd.builtins)
    (λenv s₂=>s₂.heap.NoLimit/\fe (model prog w) A (.func body env) R s₂) (λe s' =>R (.error e) s') s₁) (λe s' =>R (.error e) s') s):fe (model prog w) A (.call (.ref a) args) R s:=by
 refine dI ?_
 show aG _ A.in1 (callAny (.ref a) args) _ _ s
 unfold callAny
 refine ag (ap (wpAny_load ho ?_))
 refine RP UI λc oc vs tq hc TK Ou hq=> ?_;clear UI
 rw [Cg]
 show aG _ _ (callFunction a fd args) _ _ _
 unfold callFunction
 rw [hc] at h
 rw [hc,R5,Zb,BK]
 refine ag (m:=field (.ref c) 1) (ap (wpAny_field TK Ou hq (ag (aq ?_))))
 exact ag (aA h λbinds s₁ h₁=>ag (aA h₁ λenv s₂ h₂=>ag (ap (wpAny_enterFrame h₂.1 PK (aq ⟨rfl,rfl,h₂.2⟩)))))
end
noncomputable def Mt (K:Frag)(S:ls)(P:PI)(X:Nat->Bool):Prop:=(∀f fi,P.fns[f]? =some fi->∃oc od fd yP,K.lookup (S.oD f)=some ⟨oc,od, .func fd,yP⟩/\rE K S X fd fi)/\∀j,X j=true->i8 K (S.dD j)=true
theorem eY:∀{xs:List Str} {k:Nat} {x:Str} {i:Nat},(xs.zipIdx k).lookup x=some i->∃j,i=k+j/\xs[j]? =some x
 | [],_,_,_,h=>by cases h
 |y::ys,k,x,i,h=>by
  rw [List.zipIdx_cons,List.lookup_cons] at h
  by_cases e:x=y
  ·subst e
   simp at h
   exact ⟨0,by lia,rfl⟩
  ·rw [eS e] at h
   refine aZ (eY h) λj a b=> ?_
   exact ⟨j+1,by lia,by simpa using b⟩
theorem aI.at' :∀{vs:List SV} {rs:List Value} {i:Nat} {v:SV},aI n l vs rs->(vs.map some)[i]? =some (some v)->∃r,rs[i]? =some r/\av n l v r:=λh e=>by
 rw [hV] at e
 refine aZ (Option.map_eq_some_iff.mp e) λu e1 e2=> ?_
 cases e2
 exact h.at e1
theorem lT:∀{names:List (Str×NameKind)} {d6:List (Str×Addr)},(names.all λp=>p.2 != .cell)=true->cellsFrom n names d6=d6
 | [],d6,_=>rfl
 |(x,k)::r,d6,h=>by
  rw [List.all_cons] at h
  simp only [Bool.and_eq_true,bne_iff_ne,ne_eq] at h
  have e:(k==NameKind.cell)=false:=eS h.1
  show (if (k==NameKind.cell)=true then cellsFrom (n+1) r ((x,n)::d6) else cellsFrom n r d6)=d6
  rw [e]
  exact lT (by simpa using h.2)
noncomputable def Cx.into (c:Cx)(out:List Env)(A:Around)(h:Heap)(ac:ao)(f:Nat)(fd:FuncData):Cx:={c with g₀:=hideAll h (ac.map (·.1)),outer:=out,A₀:=A,cn:=fd.qualname,cs:=fd.scope,L:=h.objs.size,a:=c.S.oD f,cd:=fd.code,cl:=cellsFrom (h.objs.size+1) fd.scope.names []}
noncomputable def Rw:Flow->Value
 | .ret v=>v
 |_=> .none
section
variable {c:Cx}{out:List Env}{A:Around}{h:Heap}{h₁:Heap}{ac cells:ao}{ah:dN}{f n:Nat}{fd:FuncData}{fi:Fn}{X:Nat->Bool}{as:List SV}{rs dv:List Value}{s:Shared}{H:HP}
theorem Ej (k:rE c.K c.S X fd fi):su (c.into out A h ac f fd) (s9 fd):=by
 refine ⟨rfl,λy z i hy hz=> ?_,λy i hy=> ?_,λhz=>lT hz⟩
 ·refine aZ (eY hy) λj e1 e2=> ?_
  refine aZ (eY hz) λj' e3 e4=> ?_
  obtain rfl:j=j' :=Nat.add_left_cancel (e1.symm.trans e3)
  exact cq (e2.symm.trans e4)
 ·refine aZ (eY hy) λj e1 e2=> ?_
  exact (k.sl y (List.mem_of_getElem? e2)).imp id λz=>⟨z,Option.isSome_iff_exists.mp (cellsFrom_some fd.scope.names (h.objs.size+1) [] (.inl z))⟩
theorem Fi (hf:A.frames=some out)(hh:A.handled=none)(hg:A.guards=some [])(d:A.depth+10*(n+1)<=400)(u:A.units+100*(n+1)<=4000):lM (c.into out A h ac f fd) n (4+1) (A.deeper (c.into out A h ac f fd).env):=
 ⟨(congrArg (Option.map (List.cons (c.into out A h ac f fd).env)) hf),hh,hg,Nat.le_add_left _ _,Nat.le_add_left _ _,(by
  show A.depth+1+10*n+(4+1)<=400
  lia),(by
  show A.units+3+100*n+(4+1)<=4000
  lia)⟩
theorem CW (x:∀n a,(n,a)∈cellsFrom (h.objs.size+1) fd.scope.names []->h.objs.size<a):∀a,a<h.objs.size->a∉(c.into out A h ac f fd).X:=λa ha hm=>by
 refine aZ (gD hm) λp hp e=> ?_
 exact absurd (x p.1 p.2 hp) (Nat.not_lt.mpr (Nat.le_of_lt (e▸ha)))
theorem Fl (k:rE c.K c.S X fd fi){kindOf:Str->Option NameKind}(hk:∀x,fd.scope.names.lookup x=some .local->kindOf x=some .local)(hv:aI ac ah as rs)(hl:rs.length=fd.params.args.length)(nd:(((fd.params.args.map (·.arg)).zip rs).map (·.1)).Nodup)(x0:br [] ac ah (cells++ac) ah):
  bC (c.into out A h ac f fd) (s9 fd) (as.map some++List.replicate (fi.n8 - fi.fX) none) (bindL kindOf ((fd.params.args.map (·.arg)).zip rs) λu8=>none) (cells++ac) ah:=by
 have key:∀y i val,(s9 fd).om.lookup y=some i->(as.map some++List.replicate (fi.n8 - fi.fX) none)[i]? =some (some val)->fd.scope.names.lookup y=some .local/\∃rv,(y,rv)∈(fd.params.args.map (·.arg)).zip rs/\av ac ah val rv:=λy i val h1 h2=>by
  refine aZ (eY h1) λj e1 e2=> ?_
  obtain rfl:i=j:=e1.trans (Nat.zero_add j)
  by_cases hj:i<(as.map some).length
  ·rw [iM hj] at h2
   refine aZ (aI.at' hv h2) λrv r1 r2=> ?_
   have Rd:i<(fd.params.args.map (·.arg)).length:=by
    rw [bI] at hj⊢
    rw [<-hl,<-hv.length];exact hj
   unfold fF at e2
   simp only at e2
   rw [iM Rd] at e2
   have hm:(y,rv)∈(fd.params.args.map (·.arg)).zip rs:=List.mem_of_getElem? (i:=i) (List.getElem?_zip_eq_some.mpr ⟨e2,r1⟩)
   refine aZ (gD (List.of_mem_zip hm).1) λa ha e=> ?_
   exact ⟨e▸k.pl a ha,rv,hm,r2⟩
  ·rw [eG (Nat.le_of_not_lt hj),List.getElem?_replicate] at h2
   split at h2<;>cases h2
 refine ⟨λy i val h1 h2 h3=> ?_,λy i val h1 h2 h3=> ?_⟩
 ·obtain ⟨k1,rv,k2,k3⟩:=key y i val h1 h2
  exact ⟨rv,yC nd k2 (hk y k1),k3.ext x0⟩
 ·cases (key y i val h1 h2).1.symm.trans h3
theorem AD {K:Frag}(h:tH K v ds){C:Prop}(a:v= .none->ds= []->C)(b:∀T o j t n,v= .ref T->ds= [.int j]->K.lookup T=some o->o.data= .seq #[.int j t] n->C):C:=by
 cases h with
 |no=>exact a rfl rfl
 |one h hd=>exact b _ _ _ _ _ rfl rfl h hd
theorem x8 (k:rE c.K c.S X fd fi)(XK:c.K.In s.heap)(hv:aI ac ah as rs)(va:as.length+fi.dflt.length=fi.fX){C:Prop}
  (G:∀dv,aI ac ah (as++fi.dflt) (rs++dv)->BindsTo s fd ⟨rs, []⟩ ((fd.params.args.map (·.arg)).zip (rs++dv))->C):C:=by
 have YZ:(fd.params.args.map (·.arg)).Nodup:=(List.nodup_append.mp k.nd).1
 have Rc:=hv.length▸va.trans k.na
 refine aZ (n9 (vs:=rs) k.par YZ) λb1 h1 h2=> ?_
 refine AD k.df (λe ed=> ?_) λT o j t n e ed ho hs=> ?_
 ·rw [ed] at Rc G
  exact G [] (hv.append .nil) (.of_eq (h1.trans ((congrArg (λv=>seqItems? v>>=b1) e).trans ((pure_bind none b1).trans (h2 none Rc.symm)))))
 ·rw [ed] at Rc G
  exact G [.int j t] (hv.append (.cons (.int j t) .nil)) (.of_defaults e (XK _ _ ho) hs h1 (h2 (some #[.int j t]) Rc.symm))
theorem Fe (nd:(ac.map (·.1)).Nodup)(addr:∀p∈ac,s.heap.get? p.1=some p.2)(hr:fG c.prog c.w c.S ac ah H)(sh:s.gens=c.gens/\s.drawn=c.drawn/\s.os=c.os)
  (ns:h₁.Ns s.heap.objs.size m) (hk:∀b o,s.heap.get? b=some o->h₁.get? b=some o) (NC:∀p∈cells,h₁.get? p.1=some p.2/\p.1≠s.heap.objs.size/\s.heap.get? p.1=none) (Y:CellsAre cm (cellsFrom (s.heap.objs.size+1) fd.scope.names []) cells) (Rk:(c.into out A s.heap ac f fd).X.Nodup) (ox:∀a,a<s.heap.objs.size->a∉(c.into out A s.heap ac f fd).X):
  aV (c.into out A s.heap ac f fd) m (cells++ac) ah H {s with heap:=h₁,toks:=tk}:=by
 refine ⟨⟨_,KtsTurn.refl,⟨ns,λb o e=>hk b o (of_hideAll _ e), ?_⟩,λp hp=> ?_⟩, ?_,hr.Ks _,λy a e=> ?_,sh⟩
 ·show (hideAll s.heap (ac.map (·.1))).objs.size<=s.heap.objs.size
  rw [hideAll_size];exact bS _
 ·rcases gi hp with hp|hp
  ·refine rm (NC p hp) λa1 a2 a3=> ?_
   refine ⟨a1,a2,(?_:(hideAll s.heap (ac.map (·.1))).get? p.1=none)⟩
   cases q:(hideAll s.heap (ac.map (·.1))).get? p.1 with
   |none=>rfl
   |some o=>rw [of_hideAll _ q] at a3;exact GG a3
  ·have z:=addr p hp
   exact ⟨hk _ _ z,cW (Heap.lt_size z),hideAll_none _ (hZ (f:=(·.1)) hp)⟩
 ·rw [eJ,ua Y]
  exact List.nodup_append.mpr ⟨Rk,nd,λa ha b hb e=>by
   refine aZ (gD hb) λp hp q=> ?_
   exact ox a (e.trans q.symm▸Heap.lt_size (addr p hp)) ha⟩
 ·refine aZ (C1 Y y a (eL e)) λo a1 a2=> ?_
  exact ⟨o,_,List.mem_append_left _ a1,a2⟩
theorem Dt:br [] ac ah (cells++ac) ah:=⟨⟨[],(ch _).symm⟩,λu8 h u8=>List.mem_append_right _ h,λu8 h u8 u8=>List.mem_append_right _ h⟩
theorem Gy {oc:Value}{od:Option Addr}{yP:Array (Option Value)}(mM:y2 c.K c.P c.S)(BG:Below A c.base out (hideAll s.heap (ac.map (·.1))))(Jb:c.K.In c.base)(top:Top c.pv c.loose c.JT c.mg c.mb c.base)(Ou:KtsDicts (out.filterMap (·.frame)) (hideAll s.heap (ac.map (·.1))))
  (XK:c.K.In s.heap) (Fu:s.heap.NoLimit)
  (hK:c.K.lookup (c.S.oD f)=some ⟨oc,od, .func fd,yP⟩) (k:rE c.K c.S X fd fi) (hh:A.handled=none) (LD:A.depth+10*(n+1)<=400)
  (nd:(ac.map (·.1)).Nodup) (addr:∀p∈ac,s.heap.get? p.1=some p.2) (hr:fG c.prog c.w c.S ac ah H) (sh:s.gens=c.gens/\s.drawn=c.drawn/\s.os=c.os) (zc:(rs++dv).length=fd.params.args.length) (xf:BindsTo s fd ⟨rs, []⟩ ((fd.params.args.map (·.arg)).zip (rs++dv))) {R:Result->Shared->Prop}
  (go:∀(cells:ao) (kindOf:Str->Option NameKind) body m s',cells.map (·.1)=(c.into out A s.heap ac f fd).X->(∀a,a<s.heap.objs.size->a∉(c.into out A s.heap ac f fd).X)->(c.into out A s.heap ac f fd).Ok 0->fd.body= .stmts body->xt c.S X (s9 fd) body fi.body->
   m=bindL kindOf ((fd.params.args.map (·.arg)).zip (rs++dv)) (λu8=>none)->(∀x,fd.scope.names.lookup x=some .local->kindOf x=some .local)->(((fd.params.args.map (·.arg)).zip (rs++dv)).map (·.1)).Nodup->aV (c.into out A s.heap ac f fd) m (cells++ac) ah H s'->(∀b o,s.heap.get? b=some o->s'.heap.get? b=some o)->
   aG (model c.prog c.w) (A.deeper (c.into out A s.heap ac f fd).env) (execs body (c.into out A s.heap ac f fd).env) (λfl s' =>R (.ok (.ret (Rw fl))) s') (λev s' =>aG (model c.prog c.w) (A.deeper (c.into out A s.heap ac f fd).env) (leaving (c.into out A s.heap ac f fd).env ev) (λu8 oy=>R (.error ev) oy) (λe oy=>R (.error e) oy) s') s'):
  fe (model c.prog c.w) A (.call (.ref (c.S.oD f)) ⟨rs, []⟩) R s:=by
 refine aZ k.t λbody BK YS=> ?_
 have VN:∀p∈(fd.params.args.map (·.arg)).zip (rs++dv),fd.scope.names.lookup p.1=some .local:=λp hp=>by
  refine aZ (gD (List.of_mem_zip (show (p.1,p.2)∈_ from hp)).1) λa ha e=> ?_
  exact e▸k.pl a ha
 have Rl:(((fd.params.args.map (·.arg)).zip (rs++dv)).map (·.1)).Nodup:=by
  rw [List.map_fst_zip (by rw [bI,zc];exact bS _)]
  exact (List.nodup_append.mp k.nd).1
 refine m0 (show A.depth<1000 by lia) (XK _ _ hK) rfl k.co k.gen BK (codeRec_of XK k.code) (ap (xf _ _ _ _ (ap ?_)))
 rw [k.gl,k.Wn,k.bi]
 refine wpAny_newFunctionEnv_cells k.kind (λx hx=> .inl (VN x hx)) λXl he s' x=> ?_
 subst he
 refine uz x.done λh₁ tk de ye=> ?_;subst de
 refine ⟨Fu.keeps ye,zq ?_⟩
 have Ur:((cellsFrom (s.heap.objs.size+1) fd.scope.names []).map (·.1)).Nodup:=cellsFrom_names fd.scope.names 0 (s.heap.objs.size+1) [] [] rfl▸k.cn
 refine aZ (Cl.news (h₀:=s.heap) (bS _) λnm a hm=>⟨x.cell nm a (lookup_of_mem_nodup Ur hm),x.above nm a hm⟩) λcells NC Y=> ?_
 have CL:(c.into out A s.heap ac f fd).Ok 0:=⟨mM,BG,Jb,top,k.kind,hh,List.pairwise_map.mpr x.apart,Ur,Ou⟩
 have ox:=CW (c:=c) (out:=out) (A:=A) (ac:=ac) (f:=f) x.above
 refine gG (go cells _ body _ _ (ua Y) ox CL BK YS rfl (λu8 h=>h) Rl (Fe (A:=A) (out:=out) (f:=f) (tk:=tk) nd addr hr sh x.toInCall.ns ye NC Y CL.Rk ox) ye) (λfl s' q=> ?_) λu8 u8 q=>q
 cases fl<;>exact q
theorem enter (mM:y2 c.K c.P c.S)(BG:Below A c.base out (hideAll s.heap (ac.map (·.1))))(Jb:c.K.In c.base)(top:Top c.pv c.loose c.JT c.mg c.mb c.base)(Ou:KtsDicts (out.filterMap (·.frame)) (hideAll s.heap (ac.map (·.1))))
  (IH:(c.into out A s.heap ac f fd).Ok 0->d5 (c.into out A s.heap ac f fd) n (run c.P n)) (exc:∀j,X j=true->i8 c.K (c.S.dD j)=true) (XK:c.K.In s.heap) (Fu:s.heap.NoLimit)
  (hK:c.K.lookup (c.S.oD f)=some ⟨oc,od, .func fd,yP⟩) (k:rE c.K c.S X fd fi) (hf:A.frames=some out) (hh:A.handled=none) (hg:A.guards=some []) (LD:A.depth+10*(n+1)<=400) (WE:A.units+100*(n+1)<=4000)
  (nd:(ac.map (·.1)).Nodup) (addr:∀p∈ac,s.heap.get? p.1=some p.2) (hr:fG c.prog c.w c.S ac ah H) (sh:s.gens=c.gens/\s.drawn=c.drawn/\s.os=c.os) (hv:aI ac ah as rs) (va:as.length+fi.dflt.length=fi.fX)
  (go:∀cells:ao,cells.map (·.1)=(c.into out A s.heap ac f fd).X->(∀a,a<s.heap.objs.size->a∉(c.into out A s.heap ac f fd).X)->(c.into out A s.heap ac f fd).Ok 0->bv (c.into out A s.heap ac f fd) (s9 fd) (cells++ac) ah (aK c.P (run c.P n) fi.body ((as++fi.dflt).map some++List.replicate (fi.n8 - fi.fX) none) H)
   (λfl s' =>Q (Rw fl) s') (λev s' =>aG (model c.prog c.w) (A.deeper (c.into out A s.heap ac f fd).env) (leaving (c.into out A s.heap ac f fd).env ev) (λu8 oy=>E ev oy) E s')):
  fe (model c.prog c.w) A (.call (.ref (c.S.oD f)) ⟨rs, []⟩) (NW Q E) s:=by
 refine x8 k XK hv va λdv QZ xf=> ?_
 have zc:(rs++dv).length=fd.params.args.length:=by rw [<-QZ.length,aL,va,k.na]
 refine Gy mM BG Jb top Ou XK Fu hK k hh LD nd addr hr sh zc xf λcells kindOf body m s' hX ox CL hb hc hm hk Rl jf ye=> ?_
 subst hm
 exact Bl ⟨CL,IH CL,Ej k,rfl,Fi hf hh hg LD WE,exc⟩ fi.body body hc jf (Fl k hk QZ zc Rl Dt) (go cells hX ox CL)
end
noncomputable def Iy (fi:Fn):cQ->dz SV
 | .next _ H=> .ok .none H
 | .ret v H=> .ok v H
 | .exc c _ H=>if fi.cells then .bad else .exc c H
 | .jw c H=>if fi.cells then .bad else .exc c H
 |_=> .bad
theorem C3 {P:PI}{n f:Nat}{as:List SV}{H:HP}{C:dz SV->Prop}(bad:C .bad)(k:∀fi,P.fns[f]? =some fi->as.length+fi.dflt.length=fi.fX->C (Iy fi (aK P (run P n) fi.body ((as++fi.dflt).map some++List.replicate (fi.n8 - fi.fX) none) H))):C (run P (n+1) f as H):=by
 show C (match P.fns[f]? with
   |some fi=>(match uF fi as with
    |some as=>Iy fi (aK P (run P n) fi.body (as.map some++List.replicate (fi.n8 - fi.fX) none) H)
    |none=> .bad)
   |none=> .bad)
 cases e:P.fns[f]? with
 |none=>exact bad
 |some fi=>
  show C (match uF fi as with|some as=>Iy fi (aK P (run P n) fi.body (as.map some++List.replicate (fi.n8 - fi.fX) none) H)|none=> .bad)
  unfold uF
  by_cases q:as.length+fi.dflt.length=fi.fX
  ·rw [if_pos q];exact k fi e q
  ·rw [if_neg q];exact bad
section
variable {c:Cx}{A:Around}{ac cells n2:ao}{ah l2:dN}{f n:Nat}{fd:FuncData}{fi:Fn}{m m' :Str->Option Value}{s s2:Shared}{H H2:HP}{g g' :Heap}
theorem zg (ok:c.Ok 0)(T:KtsTurn c.fs c.g₀ g)(F:Fr g c.L (hideAll s.heap (ac.map (·.1))) m):KtsDicts ((c.env::c.outer).filterMap (·.frame)) (hideAll s.heap (ac.map (·.1))):=λb hb=>by
 rcases sH hb with e|e
 ·subst e
  refine WO F.ns λoL es ep hL hd u8=> ?_
  exact ⟨oL,es,ep,hL,hd⟩
 ·refine Q4 ((ok.Kv.turn T) b e) λo es nn h1 h2=> ?_
  exact ⟨o,es,nn,F.keep b o h1,h2⟩
structure CY (c:Cx)(A:Around)(s:Shared)(ac:ao)(ah:dN)(f:Nat)(fd:FuncData)(m:Str->Option Value)(n2:ao)(l2:dN):Prop where
 cells:∀x a,c.cl.lookup x=some a->∃o v₀,(a,o)∈n2/\o.data= .cell v₀
 ext:br [] ac ah n2 l2
 lift:∀g',KtsTurn (c.into (c.env::c.outer) A s.heap ac f fd).fs (c.into (c.env::c.outer) A s.heap ac f fd).g₀ g'->∃Ku,KtsTurn c.fs c.g₀ Ku/\Fr Ku c.L g' m
theorem F5 (ok:c.Ok 0)(hn:aV c m ac ah H s)(T:KtsTurn c.fs c.g₀ g)(F:Fr g c.L (hideAll s.heap (ac.map (·.1))) m)(hX:cells.map (·.1)=(c.into (c.env::c.outer) A s.heap ac f fd).X)(ox:∀a,a<s.heap.objs.size->a∉(c.into (c.env::c.outer) A s.heap ac f fd).X)
  (x:br (c.into (c.env::c.outer) A s.heap ac f fd).X (cells++ac) ah n2 l2):CY c A s ac ah f fd m n2 l2:=by
 refine ⟨λy a e=> ?_,⟨x.ah,λp hp q=>x.sP p (List.mem_append_right _ hp) q,λp hp q u8=>x.cell p (List.mem_append_right _ hp) q (ox _ (hn.lt p hp))⟩,λg' T' => ?_⟩
 ·refine uz (hn.cells y a e) λo v₀ a1 a2=> ?_
  exact ⟨o,v₀,x.cell _ (List.mem_append_right _ a1) (kg a2) (ox _ (hn.lt _ a1)),a2⟩
 ·obtain ⟨Ku,T2,F2⟩:=DX (λb hb=>by
   refine Q4 ((ok.Kv.turn T) b hb) λo u8 u8 h1 u8=> ?_
   exact ⟨o,h1⟩) F T'
  exact ⟨Ku,T.trans T2,F2⟩
theorem CY.now (b:CY c A s ac ah f fd m n2 l2)(hn:aV (c.into (c.env::c.outer) A s.heap ac f fd) m' n2 l2 H2 s2):aV c m n2 l2 H2 s2:=by
 refine hn.gE λg' T' F' N' => ?_
 refine aZ (b.lift g' T') λKu T2 F2=> ?_
 exact ⟨⟨Ku,T2,Mine.Fr.up F2 F',Mine.News.up F2 N'⟩,hn.nd,hn.hr,b.cells,hn.sh⟩
theorem CY.leave (b:CY c A s ac ah f fd m n2 l2){ev:Value}(hx:LL (c.into (c.env::c.outer) A s.heap ac f fd) n2 l2 H2)(hl:f7 (c.into (c.env::c.outer) A s.heap ac f fd) k n2 ev s2)
  (he:∀az bM s' ev,CI c az bM H2 s'->br [] ac ah az bM->kG c m k az ev s'->E ev s'):
  aG (model c.prog c.w) (A.deeper (c.into (c.env::c.outer) A s.heap ac f fd).env) (leaving (c.into (c.env::c.outer) A s.heap ac f fd).env ev) (λu8 oy=>E ev oy) E s2:=by
 refine ap (wpAny_mono hl (λu8 s3 Xg=> ?_) λu8 u8 z=>z.elim)
 obtain ⟨e,t,vs,g',e1,T',R',U',Yj,Lg⟩:=Xg
 refine aZ (b.lift g' T') λKu T2 F2=> ?_
 exact he n2 l2 s3 ev ⟨hx.nd,hx.hr,b.cells,Yj⟩ b.ext ⟨e,t,vs,g',e1,R',U',⟨Ku,T2,F2⟩,Lg⟩
theorem Hg {X:Nat->Bool}(k:rE c.K c.S X fd fi)(CL:(c.into (c.env::c.outer) A s.heap ac f fd).Ok 0)(bk:∀{n2 l2},br (c.into (c.env::c.outer) A s.heap ac f fd).X (cells++ac) ah n2 l2->CY c A s ac ah f fd m n2 l2)(h:bw av c m ac ah (Iy fi o) Q E):
  bv (c.into (c.env::c.outer) A s.heap ac f fd) v (cells++ac) ah o (λfl s' =>Q (Rw fl) s') (λev s' =>aG (model c.prog c.w) (A.deeper (c.into (c.env::c.outer) A s.heap ac f fd).env) (leaving (c.into (c.env::c.outer) A s.heap ac f fd).env ev) (λu8 oy=>E ev oy) E s'):=by
 cases o with
 |next l H2=>exact λm' n2 l2 s2 fI x2 L2=>h _ _ _ _ ((bk x2).now fI) (bk x2).ext .none
 |ret u H2=>exact λm' n2 l2 s2 ru fI x2 v2=>h _ _ _ _ ((bk x2).now fI) (bk x2).ext v2
 |exc kk l H2=>
  replace h:bw av c m ac ah (if fi.cells=true then .bad else .exc kk H2) Q E:=h
  by_cases hc:fi.cells=true
  ·rw [if_pos hc] at h;exact h.elim
  ·rw [if_neg hc] at h
   exact λm' n2 l2 s2 ev hx x2 L2 hr=>(bk x2).leave ⟨hx.nd,hx.hr⟩ (FR CL (lT (k.cs (Bool.eq_false_iff.mpr hc))) hx hr) h
 |jw kk H2=>
  replace h:bw av c m ac ah (if fi.cells=true then .bad else .exc kk H2) Q E:=h
  by_cases hc:fi.cells=true
  ·rw [if_pos hc] at h;exact h.elim
  ·rw [if_neg hc] at h
   exact λn2 l2 s2 ev hx x2 hr=>(bk x2).leave hx hr h
 |cont l H2=>exact h.elim
 |bad=>exact h.elim
end
theorem Fj {X:Nat->Bool}(n:Nat):∀(c:Cx),Mt c.K c.S c.P X->c.Ok 0->d5 c n (run c.P n):=by
 induction n with
 |zero=>exact λc hP ok A hA f as H m ac ah s rs Q E hn hv h=>h.elim
 |succ n ih=>
  intro c hP ok A hA f as H m ac ah s rs Q E hn hv
  refine C3 (C:=λo=>bw av c m ac ah o Q E->_) (λh=>h.elim) λfi Sw va h=> ?_
  refine Xk (hP.1 f fi Sw) λoc od fd yP hK k=> ?_
  refine hn.gE λg T F N=> ?_
  refine RJ (groundX (R:=λu8 u8=>True) (env:=c.env) (ok.sA T) F N hA.frames rfl ok.LK) λFG BG st u8=> ?_
  exact enter ok.mM BG ok.Jb ok.top (zg ok T FG) (ih _ hP) hP.2 ((ok.qn T).keeps F.keep) ((ok.top.keeps (ok.stays T)).nolimit.keeps F.keep) hK k hA.frames hA.hand hA.guards hA.depth hA.units hn.nd (λp hp=>hn.addr hp) hn.hr hn.sh hv va λcells hX ox CL=>
   Hg k CL (F5 ok hn T FG hX ox) h
section
variable {c:Cx}{d n kk:Nat}{m:Str->Option Value}{ac:ao}{ah:dN}{H:HP}{s:Shared}{v:CV}{l:cR}{A:Around}{E:Value->Shared->Prop}{R:au}
inductive wL (S:ls)(v:CV)(i w:Nat)(k:EK)(t:Option (SE×SE))(lo hi:SE):Stmt->Prop where
 |mk (y py elt tg ts z p1 l h p2 p ifs sc lp sp) (h1:v.om.lookup y=some i) (h2:v.sc.names.lookup y=some .local) (h3:(py.line==lp.line)=true) (h4:(sc.names.any λp=>p.1==y&&(p.2== .local||p.2== .cell))=false) (z1:gq v z 0=true) (z2:HG S v l lo) (z3:HG S v h hi) (h6:sI v sc ts=true) (h7:CK v sc ts k elt) (h8:rC v sc ts t ifs) (h9:Tg w tg ts):
  wL S v i w k t lo hi (.Assign [.Name y py] (.ListComp elt [⟨tg, .Subscript (.Name z p1) (.Slice l h none p2) p,ifs,0⟩] sc lp) sp)
inductive r8 (S:ls)(X:Nat->Bool)(v:CV)(i w:Nat)(k:EK)(t:Option (SE×SE))(aH:cA):List Stmt->Prop where
 |mk (y ys) (h1:wL S v i w k t .none (.int 7) y) (h2:xt S X v ys aH):r8 S X v i w k t aH (y::ys)
theorem Eu (ok:c.Ok d)(RS:d5 c n R)(hA:lM c n (kk+1) A)(he:gT c v c.env l m ac ah)(h:HG c.S v a e)(hn:aV c m ac ah H s)(hq:bw av c m ac ah (bj c.P R e l H) Q E):aG (model c.prog c.w) A (valueOrNone (evalOpt a c.env)) Q E s:=by
 exact h.s ok RS rfl hA he hn hq
theorem Pa (vs:List SV):lJ vs .none (.int 7)=some (vs.take 7):=by
 show (if (0:Int)<=7 then some (vs.take 7) else none)=_
 rfl
theorem Dj (ok:c.Ok d)(RS:d5 c n R)(V:su c v)(hA:lM c n (kk+1) A){k:EK}(hc:wL c.S v i w k t .none (.int 7) x)(hn:aV c m ac ah H s)(hL:bC c v l m ac ah)
  (hb:∀y,v.om.lookup y=some 0->c.cs.names.lookup y=some .local/\m y=some (.ref b)) (hl:∀{n' l' H' s'},aV c m n' l' H' s'->s'.heap.IsList b aC.toArray) (hv:aI ac ah vs aC) (hle:vs.length<=big) (hu:gm w k t (.ref H.length) l (H++ [.list (vs.take 7)])=some us)
  (q:∀n1 l1,br [] ac ah n1 l1->bv c v n1 l1 (.next (al l i (.ref (H++ [SO.list (vs.take 7)]).length)) ((H++ [.list (vs.take 7)])++ [.list us])) Q E):aG (model c.prog c.w) A (exec x c.env) Q E s:=by
 cases hc with
 |mk y py elt tg ts z p1 lo hi p2 p ifs sc lp sp h1 h2 h3 h4 z1 z2 z3 h6 h7 h8 h9=>
 refine uM ok V hA h1 h2 h3 h4 h6 h7 h8 h9 rfl (l:=l) (m:=m) λQ' K=> ?_
 unfold gq at z1
 simp only [Bool.and_eq_true,beq_iff_eq,bne_iff_ne,ne_eq] at z1
 obtain ⟨hk,hm⟩:=hb z z1.1.1
 refine hn.gE λg T F N=> ?_
 refine Lj (ap (nameX_L F hm ?_ ok.kind hk (eS z1.1.2)))
 have he:=ez ok V hL
 refine FM (Eu ok RS hA he z2 hn λn1 l1 s1 r1 cN x1 v1=> ?_)
 refine Eu ok RS hA (he.ext x1) z3 cN λn2 l2 s2 r2 fI x2 v2=> ?_
 exact ap (vm fI (hl fI) (hv.ext (x1.trans x2)) hle (v1.ext x2) v2 (Pa vs) λn3 l3 s3 rx rZ x3 v3=>K _ _ _ _ _ _ _ rZ (hL.ext ((x1.trans x2).trans x3)) v3 hu (q n3 l3 ((x1.trans x2).trans x3)))
theorem GT {X:Nat->Bool}(O:Cr c d n kk R v X A){k:EK}(hc:r8 c.S X v i w k t aH body)(hn:aV c m ac ah H s)(hL:bC c v l m ac ah)
  (hb:∀y,v.om.lookup y=some 0->c.cs.names.lookup y=some .local/\m y=some (.ref b)) (hl:∀{n' l' H' s'},aV c m n' l' H' s'->s'.heap.IsList b aC.toArray) (hv:aI ac ah vs aC) (hle:vs.length<=big) (hu:gm w k t (.ref H.length) l (H++ [.list (vs.take 7)])=some us)
  (ho:aK c.P R aH (al l i (.ref (H++ [SO.list (vs.take 7)]).length)) ((H++ [.list (vs.take 7)])++ [.list us])=o) (h:∀n1 l1,bv c v n1 l1 o Q E):aG (model c.prog c.w) A (execs body c.env) Q E s:=by
 cases hc with
 |mk y ys c1 c2=>
 exact KG (Dj O.ok O.RS O.V O.A c1 hn hL hb hl hv hle hu λn1 l1 x=>λm1 n2 y1 s1 cN X1 kO=>Bl O aH ys c2 cN kO (bv.base X1 (by subst ho;exact h n1 l1)))
noncomputable def wM (P:Params)(h:Heap)(v:Value):WData->Prop
 | .int i=>∃t,v= .int i t
 | .list xs=>∃b aC,v= .ref b/\h.get? b=some {cls:= .type "list",data:= .seq aC.toArray}/\WellAll P h aC xs
 |_=>True
theorem KR {P:Params}{h:Heap}{v:Value}{d:WData}(x:Well P h v d):wM P h v d:=by
 cases x with
 |int i t=>exact ⟨t,rfl⟩
 |list hg hi=>exact ⟨_,_,rfl,hg,hi⟩
 |_=>trivial
theorem C5 {P:Params}{xs:List Int}:∀{vs:List Value},WellAll P h vs (xs.map WData.int)->aI ac ah (xs.map SV.int) vs:=by
 induction xs with
 |nil=>
  intro vs h
  cases h
  exact .nil
 |cons x xs ih=>
  intro vs h
  obtain ⟨v,r,rfl,a,b⟩:=wellAll_cons_inv h
  obtain ⟨t,rfl⟩:=KR a
  exact .cons (.int _ _) (ih b)
end
end Mine
set_option maxHeartbeats 1000000
namespace Mine
open PySem PySem.W PySem.Calls PyProof.Rows PySem.Spec
noncomputable section
theorem FL:bC c v (List.replicate N none) m ac ah:=by
 have z:∀{i:Nat} {val:SV},(List.replicate N (none:Option SV))[i]? =some (some val)->False:=λh=>by
  rw [List.getElem?_replicate] at h
  split at h<;>cases h
 exact ⟨λy i val h1 h2 h3=>(z h2).elim,λy i val h1 h2 h3=>(z h2).elim⟩
section
variable {c:Cx}{s s' :Shared}{A:Around}{f:Nat}{fd:FuncData}{m:Str->Option Value}{ac:ao}{ah:dN}{H:HP}
theorem yH (hn:aV (c.into [] A s.heap [] f fd) m ac ah H s'):(∀b o,s.heap.get? b=some o->s'.heap.get? b=some o)/\s'.gens=c.gens/\s'.os=c.os:=by
 refine hn.gE λg T F N=> ?_
 exact ⟨λb o e=>F.keep b o (T.other b o e nofun),hn.sh.1,hn.sh.2.2⟩
theorem Tp {X:Nat->Bool}(k:rE c.K c.S X fd fi)(h1:fi.fX=1){kindOf:Str->Option NameKind}(hk:∀x,fd.scope.names.lookup x=some .local->kindOf x=some .local)(h:(s9 fd).om.lookup y=some 0):
  fd.scope.names.lookup y=some .local/\bindL kindOf ((fd.params.args.map (·.arg)).zip [r]) (λu8=>none) y=some r:=by
 refine aZ (eY h) λj e1 e2=> ?_
 obtain rfl:j=0:=(e1.trans (Nat.zero_add j)).symm
 have hn:=h1.symm.trans k.na
 have hp:=k.pl
 unfold fF at e2
 generalize fd.params.args=as at*
 cases as with
 |nil=>cases hn
 |cons a l=>
  obtain rfl:l= []:=List.eq_nil_of_length_eq_zero (Nat.succ.inj hn).symm
  cases e2
  have q:=hp a (.head _)
  exact ⟨q,yC (List.pairwise_singleton _ _) (.head _) (hk _ q)⟩
theorem R8 {S:ls}:fG p w S [] [] []:=⟨rfl,(λi o p h=>by cases h), .nil,(λp h=>by cases h),λp h=>by cases h⟩
noncomputable def ER (K:Frag)(S:ls)(X:Nat->Bool)(f:Nat)(fi:Fn)(i w:Nat)(k:EK)(t:Option (SE×SE))(aH:cA):Prop:=
 ∃oc od fd yP,K.lookup (S.oD f)=some ⟨oc,od, .func fd,yP⟩/\rE K S X fd fi/\∃b,fd.body= .stmts b/\r8 S X (s9 fd) i w k t aH b
theorem C9 {X:Nat->Bool}{k:EK}{nm:String}{cl:Bool}
  (mM:y2 c.K c.P c.S) (BG:Below callerA c.base [] (hideAll s.heap [])) (Jb:c.K.In c.base) (top:Top c.pv c.loose c.JT c.mg c.mb c.base) (XK:c.K.In s.heap) (Fu:s.heap.NoLimit) (US:Mt c.K c.S c.P X) (sh:s.gens=c.gens/\s.drawn=c.drawn/\s.os=c.os)
  (SW:ER c.K c.S X f ⟨nm,1, [],N,cl,b0⟩ i w k t aH) (hl:s.heap.IsList b aC.toArray) (hv:∀{ac ah},aI ac ah vs aC) (hle:vs.length<=big) (hu:gm w k t (.ref 0) (List.replicate N none) [.list (vs.take 7)]=some us)
  (e:aK c.P (run c.P 7) aH (al (List.replicate N none) i (.ref 1)) [.list (vs.take 7), .list us]= .ret (.bool true) H')
  (q:∀s',(∀b o,s.heap.get? b=some o->s'.heap.get? b=some o)->s'.gens=c.gens->s'.os=c.os->Q (.bool true) s'):aG (model c.prog c.w) callerA (PySem.call (.ref (c.S.oD f)) [.ref b]) Q E s:=by
 obtain ⟨oc,od,fd,yP,hK,k,bd,Ra,lN⟩:=SW
 refine jl ?_
 refine x8 (c:=c) (s:=s) (ac:= [(b,default)]) (ah:= [(b,b)]) (as:= [.ref 0]) (rs:= [.ref b]) k XK (.cons (.ref (p:=(b,b)) rfl) .nil) rfl λdv QZ xf=> ?_
 obtain rfl:dv= []:=List.eq_nil_of_length_eq_zero (Nat.succ.inj QZ.length).symm
 have XG:fG c.prog c.w c.S [] [] []:=R8
 have d1:KtsDicts (([]:List Env).filterMap (·.frame)) (hideAll s.heap (([]:ao).map (·.1))):=λb hb=>by cases hb
 have d2:callerA.depth+10*(7+1)<=400:=by decide
 have d3:∀p∈([]:ao),s.heap.get? p.1=some p.2:=λp hp=>by cases hp
 have d4:callerA.handled=none:=rfl
 have z:= @Gy c [] callerA [] [] f 7 fd _ X [.ref b] [] s [] oc od yP mM BG Jb top d1 XK Fu hK k d4 d2 .nil d3 XG sh k.na xf
 refine z λcells kindOf body m s' hX ox CL hb hc hm hk Rl hn ye=> ?_
 have O:Cr (c.into [] callerA s.heap [] f fd) 0 7 4 (run c.P 7) (s9 fd) X _:=⟨CL,Fj 7 _ US CL,Ej k,rfl,Fi (n:=7) rfl rfl rfl (by decide) (by decide),US.2⟩
 subst hm
 cases hb.symm.trans Ra
 refine GT O lN hn (l:=List.replicate N none) FL (λy hy=>Tp k rfl hk hy) (λjf=> ?_) hv hle hu e λn1 l1=>λm' n2 l2 s2 rx fI x2 v2=> ?_
 ·refine mF hl λo h1 h2 h3=> ?_;clear hl
  exact ⟨o,(yH jf).1 _ _ h1,h2,h3⟩
 ·cases v2
  refine rm (yH fI) λh1 h2 h3=> ?_
  exact q s2 h1 h2 h3
end
end
noncomputable section
noncomputable abbrev Ev (p:Prop):=Option (PLift p)
noncomputable def ck (b:Bool):Ev (b=true):=if h:b=true then some ⟨h⟩ else none
noncomputable def wB (b:Bool):Ev (b=false):=if h:b=false then some ⟨h⟩ else none
noncomputable def ce {α:Type}[DecidableEq α](a b:α):Ev (a=b):=if h:a=b then some ⟨h⟩ else none
noncomputable def cp (p:Prop)[Decidable p]:Ev p:=if h:p then some ⟨h⟩ else none
noncomputable def ev {p:Prop}(h:p):Ev p:=some ⟨h⟩
noncomputable def bd {p q:Prop}(x:Ev p)(f:p->Ev q):Ev q:=match x with
 |some h=>f h.down
 |none=>none
noncomputable def eo {p:Prop}(a b:Ev p):Ev p:=a.or b
noncomputable def se {p:Prop}{a b:Nat}(f:a=b->Ev p):Ev p:=if h:a=b then f h else none
theorem Ev.get {p:Prop}{x:Ev p}(h:x.isSome=true):p:=by
 cases x with
 |none=>exact xh h
 |some a=>exact a.down
section
variable (S:ls)(v:CV)
noncomputable def gW (x:Str){P:Option GV->Prop}(f:∀o,Ev (P o)):Ev (P (S.glob.lookup x)):=f _
noncomputable def gI (x:Str)(i:Int):Ev (S.glob.lookup x=some (.int i)):=gW S x (P:=λo=>o=some (.int i)) λo=>se λz9=>Option.some.elim o z9 λg=>se λz9=>GV.int.elim g z9 λj=>bd (ce j i) λh=>ev (congrArg (λz=>some (GV.int z)) h)
noncomputable def gB (x:Str)(i:By):Ev (S.glob.lookup x=some (.bytes i)):=gW S x (P:=λo=>o=some (.bytes i)) λo=>se λz9=>Option.some.elim o z9 λg=>se λz9=>GV.bytes.elim g z9 λj=>bd (ce j i) λh=>ev (congrArg (λz=>some (GV.bytes z)) h)
noncomputable def gF (x:Str)(i:Nat):Ev (S.glob.lookup x=some (.fn i)):=gW S x (P:=λo=>o=some (.fn i)) λo=>se λz9=>Option.some.elim o z9 λg=>se λz9=>GV.fn.elim g z9 λj=>bd (ce j i) λh=>ev (congrArg (λz=>some (GV.fn z)) h)
noncomputable def gC (x:Str)(i:Nat):Ev (S.glob.lookup x=some (.cls i)):=gW S x (P:=λo=>o=some (.cls i)) λo=>se λz9=>Option.some.elim o z9 λg=>se λz9=>GV.cls.elim g z9 λj=>bd (ce j i) λh=>ev (congrArg (λz=>some (GV.cls z)) h)
noncomputable def gN (x:Str)(i:Bi):Ev (S.glob.lookup x=some (.bi i)):=gW S x (P:=λo=>o=some (.bi i)) λo=>se λz9=>Option.some.elim o z9 λg=>se λz9=>GV.bi.elim g z9 λj=>bd (ce j i) λh=>ev (congrArg (λz=>some (GV.bi z)) h)
section
variable (r:∀x e,Ev (Ck S v x e))
noncomputable def IT (xs:List Expr):∀es,Ev (ze S v xs es):=List.rec (motive:=λxs=>∀es,Ev (ze S v xs es)) (λes=>se λq=>nG.nil.elim es q (ev .nil)) (λx xs ih es=>se λq=>nG.cons.elim es q λe es=>bd (wB (stop x)) λh=>bd (r x e) λa=>bd (ih es) λb=>ev (.cons x xs e es h a b)) xs
noncomputable def Q3 (x:Option Expr)(e:SE):Ev (HG S v x e):=eo (se λz9=>Option.some.elim x z9 λx=>bd (r x e) λa=>ev (.some x e a)) (se λz9=>Option.none.elim x z9 (se λq=>SE.none.elim e q (ev .none)))
noncomputable def QY (b:List UInt8):By:=b.map λc=>(c.toNat:Int)
noncomputable def dk (x:Expr)(e:SE):Ev (Ck S v x e):=SE.casesOn (motive_1:=λe=>Ev (Ck S v x e)) e
 (se λz9=>Expr.Constant.elim x z9 λc9 k p=>se λz9=>Const.none.elim c9 z9<|ev (.none k p))
 (λb=>se λz9=>Expr.Constant.elim x z9 λc9 k p=>se λz9=>Const.bool.elim c9 z9 λc=>bd (ce c b) λh=>ev (h▸ .bool c k p))
 (λi=>eo (se λz9=>Expr.Constant.elim x z9 λc9 k p=>se λz9=>Const.int.elim c9 z9 λc=>bd (ce c i) λh=>ev (h▸ .int c k p)) (se λz9=>Expr.Name.elim x z9 λn p=>bd (ck (eg v n)) λg=>bd (gI S n i) λh=>ev (.Se n p i g h)))
 (λi=>eo (se λz9=>Expr.Constant.elim x z9 λc9 k p=>se λz9=>Const.bytes.elim c9 z9 λb=>bd (ce (QY b) i) λh=>bd (cp ((QY b).length<=big)) λl=>ev (h▸ .bytes b k p l)) (se λz9=>Expr.Name.elim x z9 λn p=>bd (ck (eg v n)) λg=>bd (gB S n i) λh=>ev (.Lv n p i g h)))
 (se λz9=>Expr.Constant.elim x z9 λc9 k p=>se λz9=>Const.str.elim c9 z9 λs=>ev (.text s k p))
 (λi=>se λz9=>Expr.Name.elim x z9 λn p=>bd (ck (gq v n i)) λh=>ev (.loc n p i h))
 (λa k=>se λz9=>Expr.Attribute.elim x z9 λo n p=>bd (ce (S.attr k) n) λh=>bd (ck (jM o)) λh1=>bd (r o a) λh2=>ev (h▸ .attr o p a k h1 h2))
 (λa i=>se λz9=>Expr.Subscript.elim x z9 λo j p=>bd (wB (stop j)) λh=>bd (r o a) λh1=>bd (r j i) λh2=>ev (.sub o j p a i h h1 h2))
 (λa lo hi=>se λz9=>Expr.Subscript.elim x z9 λo j p=>se λq=>Expr.Slice.elim j q λl h s q=>se λz9=>Option.none.elim s z9 (bd (r o a) λh1=>bd (Q3 S v r l lo) λh2=>bd (Q3 S v r h hi) λh3=>ev (.slice o l h q p a lo hi h1 h2 h3)))
 (λop a b=>se λz9=>Expr.BinOp.elim x z9 λl o y p=>bd (ce (lI op) o) λh=>bd (r l a) λh1=>bd (r y b) λh2=>ev (h▸ .bin l y p op a b h1 h2))
 (λa=>se λz9=>Expr.UnaryOp.elim x z9 λo y p=>se λq=>UnaryOp.USub.elim o q (bd (r y a) λh=>ev (.neg y p a h)))
 (λop a b=>se λq=>Expr.Compare.elim x q λl os ys p=>se λz9=>List.cons.elim os z9 λo r9=>se λz9=>List.nil.elim r9 z9<|se λz9=>List.cons.elim ys z9 λy r9=>se λz9=>List.nil.elim r9 z9<|bd (ce (tp op) o) λh=>bd (wB (stop y)) λh1=>bd (r l a) λh2=>bd (r y b) λh3=>ev (h▸ .cmp l y p op a b h1 h2 h3))
 (λes=>se λq=>Expr.BoolOp.elim x q λo xs p=>se λq=>BoolOp.And.elim o q (bd (IT S v r xs es) λh=>ev (.and xs p es h)))
 (λes=>se λq=>Expr.BoolOp.elim x q λo xs p=>se λq=>BoolOp.Or.elim o q (bd (IT S v r xs es) λh=>ev (.or xs p es h)))
 (λa=>se λz9=>Expr.UnaryOp.elim x z9 λo y p=>se λq=>UnaryOp.Not.elim o q (bd (r y a) λh=>ev (.not y p a h)))
 (λa b c=>se λq=>Expr.IfExp.elim x q λx y z p=>bd (r x a) λh1=>bd (r y b) λh2=>bd (r z c) λh3=>ev (.ite x y z p a b c h1 h2 h3))
 (λes=>se λz9=>Expr.Tuple.elim x z9 λxs k p=>bd (cp (xs.length<=30)) λh=>bd (IT S v r xs es) λh1=>ev (.tuple xs k p es h h1))
 (λes=>se λq=>Expr.List.elim x q λxs p=>bd (cp (xs.length<=30)) λh=>bd (IT S v r xs es) λh1=>ev (.list xs p es h h1))
 (se λq=>Expr.Dict.elim x q λks vs p=>se λz9=>List.nil.elim ks z9 (se λz9=>List.nil.elim vs z9 (ev (.aM p))))
 (λf es=>se λz9=>Expr.Call.elim x z9 λg9 xs GM p=>se λz9=>List.nil.elim GM z9<|se λz9=>Expr.Name.elim g9 z9 λn q=>bd (ck (eg v n)) λg=>bd (gF S n f) λh=>bd (IT S v r xs es) λc=>ev (.fS n q xs p f es g h c))
 (λf es=>se λz9=>Expr.Call.elim x z9 λg9 xs GM p=>se λz9=>List.nil.elim GM z9<|se λz9=>Expr.Name.elim g9 z9 λn q=>bd (ck (eg v n)) λg=>bd (gC S n f) λh=>bd (IT S v r xs es) λc=>ev (.callC n q xs p f es g h c))
 (λf es=>se λz9=>Expr.Call.elim x z9 λg9 xs GM p=>se λz9=>List.nil.elim GM z9<|se λz9=>Expr.Name.elim g9 z9 λn q=>bd (ck (eg v n)) λg=>bd (gN S n f) λh=>bd (IT S v r xs es) λc=>ev (.bG n q xs p f es g h c))
 (λa k es=>se λz9=>Expr.Call.elim x z9 λf xs GM p=>se λz9=>List.nil.elim GM z9<|se λz9=>Expr.Attribute.elim f z9 λo n q=>bd (ce (S.attr k) n) λh=>bd (ck (jM o)) λh1=>bd (cp (xs.length<30)) λh2=>bd (ce q.endLine p.line) λh3=>bd (r o a) λh4=>bd (IT S v r xs es) λh5=>ev (h▸ .eu o q xs p a k es h1 h2 h3 h4 h5))
 (λes=>se λz9=>Expr.BinOp.elim x z9 λl o y p=>se λz9=>Expr.Constant.elim l z9 λc9 k q=>se λz9=>Const.str.elim c9 z9 λs=>se λz=>Operator.Mod.elim o z (se λz9=>Expr.Tuple.elim y z9 λxs j u=>bd (ce ("entry %d does not follow %d":Str) s) λh=>bd (cp (xs.length=2)) λh1=>bd (IT S v r xs es) λh2=>ev (h▸ .Aw k q xs j u p es h1 h2)))
 (λa=>se λz9=>Expr.BinOp.elim x z9 λl o y p=>se λz9=>Expr.Constant.elim l z9 λc9 k q=>se λz9=>Const.str.elim c9 z9 λs=>se λz=>Operator.Mod.elim o z (bd (ce ("no command is of kind %d":Str) s) λh=>bd (r y a) λh1=>ev (h▸ .xw k q y p a h1)))
 (λa=>se λq=>Expr.JoinedStr.elim x q λxs p=>se λz9=>List.cons.elim xs z9 λy xs=>se λz9=>List.cons.elim xs z9 λz r9=>se λz9=>List.nil.elim r9 z9<|se λq=>Expr.FormattedValue.elim y q λw c o q=>se λz9=>Option.none.elim o z9 (se λz9=>Expr.Constant.elim z z9 λc9 k u=>se λz9=>Const.str.elim c9 z9 λs=>bd (ce (" octets are left over":Str) s) λh=>bd (ce (-1) c) λhc=>bd (r w a) λh1=>ev (h▸hc▸ .zl w q k u p a h1)))
end
noncomputable def dx:∀x e,Ev (Ck S v x e):=Nat.rec (motive:=λu8=>∀x e,Ev (Ck S v x e)) (λu8 u8=>none) (λu8 r=>dk S v r) 40
noncomputable def P6 (sc:Scope)(ts:List Str):∀a e,Ev (Cp v sc ts a e):=Nat.rec (motive:=λu8=>∀a e,Ev (Cp v sc ts a e)) (λu8 u8=>none) (λu8 r a e=>
 eo (se λq=>SE.loc.elim a q λi=>se λz9=>Expr.Name.elim e z9 λn p=>bd (ck (Bc v sc ts n i)) λh=>ev (.loc n p i h))<|
 eo (se λq=>SE.int.elim a q λi=>se λz9=>Expr.Constant.elim e z9 λc9 k p=>se λz9=>Const.int.elim c9 z9 λj=>bd (ce j i) λh=>ev (h▸ .int j k p))<|
 eo (se λq=>SE.bytes.elim a q λi=>se λz9=>Expr.Constant.elim e z9 λc9 k p=>se λz9=>Const.bytes.elim c9 z9 λb=>bd (ce (QY b) i) λh=>bd (cp ((QY b).length<=big)) λl=>ev (h▸ .bytes b k p l))<|
 eo (se λq=>SE.sub.elim a q λa i=>se λz9=>Expr.Subscript.elim e z9 λo j p=>bd (wB (stop j)) λh=>bd (r a o) λh1=>bd (r i j) λh2=>ev (.sub o j p a i h h1 h2))<|
 (se λq=>SE.bin.elim a q λop a b=>se λz9=>Expr.BinOp.elim e z9 λl o y p=>bd (ce (lI op) o) λh=>bd (r a l) λh1=>bd (r b y) λh2=>ev (h▸ .bin l y p op a b h1 h2))) 20
noncomputable def SJ (sc:Scope)(ts:List Str)(k:EK)(x:Expr):Ev (CK v sc ts k x):=EK.casesOn (motive:=λk=>Ev (CK v sc ts k x)) k
 (λa=>bd (P6 v sc ts a x) λh=>ev (.one a x h))
 (λa b=>se λz9=>Expr.Tuple.elim x z9 λes k p=>se λz9=>List.cons.elim es z9 λx es=>se λz9=>List.cons.elim es z9 λy r9=>se λz9=>List.nil.elim r9 z9<|bd (wB (stop x)) λh1=>bd (wB (stop y)) λh2=>bd (P6 v sc ts a x) λh3=>bd (P6 v sc ts b y) λh4=>ev (.pair a b x y k p h1 h2 h3 h4))
noncomputable def N0 (sc:Scope)(ts:List Str)(t:Option (SE×SE))(x:List Expr):Ev (rC v sc ts t x):=eo (se λz9=>Option.none.elim t z9 (se λz9=>List.nil.elim x z9 (ev .none)))<|se λz9=>Option.some.elim t z9 λt=>Prod.casesOn (motive:=λt=>Ev (rC v sc ts (some t) x)) t λa b=>se λz9=>List.cons.elim x z9 λx r9=>se λz9=>List.nil.elim r9 z9<|se λq=>Expr.Compare.elim x q λl os ys p=>se λz9=>List.cons.elim os z9 λo r9=>se λz9=>List.nil.elim r9 z9<|se λz9=>List.cons.elim ys z9 λy r9=>se λz9=>List.nil.elim r9 z9<|bd (ce CmpOp.Eq o) λe=>bd (wB (behindInMarks .Eq y)) λh=>bd (P6 v sc ts a l) λh1=>bd (P6 v sc ts b y) λh2=>ev (e▸ .some a b l y p h h1 h2)
noncomputable def Vi (x:Expr)(r:List Str):List Str:=if h:x.ctorIdx=23 then Expr.Name.elim (motive_1:=λu8=>List Str) x h λn u8=>n::r else []
noncomputable def Q6 (es:List Expr):List Str:=List.rec (motive:=λu8=>List Str) [] (λx u8 r=>Vi x r) es
noncomputable def JD (x:Expr):List Str:=if h:x.ctorIdx=25 then Expr.Tuple.elim (motive_1:=λu8=>List Str) x h λes u8 u8=>Q6 es else Vi x []
noncomputable def S1 (es:List Expr):Ev (DG es (Q6 es)):=List.rec (motive:=λes=>Ev (DG es (Q6 es))) (ev .nil) (λx es ih=>bd ih λh=>se λz9=>Expr.Name.elim x z9 λn p=>ev (.cons n p es _ h)) es
noncomputable def RV (w:Nat)(x:Expr):Ev (Tg w x (JD x)):=eo (se λz9=>Expr.Name.elim x z9 λn p=>bd (ce 1 w) λh=>ev (h▸ .name n p))<|se λz9=>Expr.Tuple.elim x z9 λes k p=>bd (cp (w≠1)) λh1=>bd (cp ((Q6 es).length=w)) λh2=>bd (S1 es) λh3=>ev (.tup es k p _ w h1 h2 h3)
noncomputable def Un (es:List Expr):∀is,Ev (CN v es is):=List.rec (motive:=λes=>∀is,Ev (CN v es is)) (λis=>se λz9=>List.nil.elim is z9 (ev .nil)) (λx es ih is=>se λz9=>List.cons.elim is z9 λi is=>se λz9=>Expr.Name.elim x z9 λn p=>bd (ce (v.om.lookup n) (some i)) λh=>bd (ih is) λt=>ev (.cons n p i es is h t)) es
noncomputable def Ys (x:Expr)(is:List Nat):Ev (CT v x is):=eo (se λz9=>Expr.Name.elim x z9 λn p=>se λz9=>List.cons.elim is z9 λi r9=>se λz9=>List.nil.elim r9 z9<|bd (ce (v.om.lookup n) (some i)) λh=>ev (.name n p i h))<|se λz9=>Expr.Tuple.elim x z9 λes k p=>bd (cp (es.length≠1)) λh=>bd (Un v es is) λh1=>ev (.tup es k p is h h1)
noncomputable def W7 (t e:Expr)(u:ST):Ev (Ct S v t e u):=ST.casesOn (motive:=λu=>Ev (Ct S v t e u)) u
 (λi=>se λz9=>Expr.Name.elim t z9 λn p=>bd (ce (v.om.lookup n) (some i)) λh=>ev (.name n p i e h))
 (λa k=>se λz9=>Expr.Attribute.elim t z9 λo n p=>bd (ce (S.attr k) n) λh=>bd (dx S v o a) λh1=>ev (h▸ .attr o p a k e h1))
 (λa i=>se λz9=>Expr.Subscript.elim t z9 λo j p=>bd (dx S v o a) λh1=>bd (dx S v j i) λh2=>ev (.sub o j p a i e h1 h2))
 (λis=>se λz9=>Expr.Tuple.elim t z9 λes k p=>bd (cp (es.length≠1)) λh1=>bd (Un v es is) λh2=>bd (wB (zo e)) λh3=>ev (.tup es k p is e h1 h2 h3))
variable (X:Nat->Bool)
noncomputable def YO (kk:Nat)(xs:List Stmt)(h:HS):Ev (Ch S X v kk xs h):=se λz9=>List.cons.elim xs z9 λx r9=>se λz9=>List.nil.elim r9 z9<|HS.casesOn (motive:=λh=>Ev (Ch S X v kk [x] h)) h
 (se λz9=>Stmt.Return.elim x z9 λe9 p=>se λz9=>Option.some.elim e9 z9 λe=>se λz9=>Expr.Constant.elim e z9 λc9 k q=>se λz9=>Const.none.elim c9 z9<|ev (.jR k q p))
 (λi b=>se λz9=>Stmt.Assign.elim x z9 λIZ e u=>se λz9=>List.cons.elim IZ z9 λt r9=>se λz9=>List.nil.elim r9 z9<|se λz9=>Expr.Name.elim t z9 λn p=>se λz9=>Expr.Constant.elim e z9 λc9 k q=>se λz9=>Const.bool.elim c9 z9 λb' =>bd (ce b' b) λh=>bd (ce (v.om.lookup n) (some i)) λh1=>ev (h▸ .setB n p b' k q u i h1))
 (λi k=>se λz9=>Stmt.AugAssign.elim x z9 λt o e u=>se λz9=>Expr.Name.elim t z9 λn p=>se λz9=>Expr.Constant.elim e z9 λc9 j q=>se λz9=>Const.int.elim c9 z9 λm=>se λz=>Operator.Add.elim o z (bd (ce m k) λh=>bd (ck (gq v n i)) λh1=>ev (h▸ .inc n p m j q u i h1)))
 (λj=>se λz9=>Stmt.Raise.elim x z9 λe9 c9 t=>se λz9=>Option.some.elim e9 z9 λe9=>se λz9=>Option.none.elim c9 z9<|se λz9=>Expr.Call.elim e9 z9 λg9 S2 GM u=>se λz9=>List.nil.elim GM z9<|se λz9=>Expr.Name.elim g9 z9 λn p=>se λz9=>List.cons.elim S2 z9 λm r9=>se λz9=>List.nil.elim r9 z9<|se λz9=>Expr.Constant.elim m z9 λc9 k q=>se λz9=>Const.str.elim c9 z9 λs=>bd (ck (eg v n)) λh1=>bd (gC S n j) λh2=>bd (ck (X j)) λh3=>bd (ck (S.HQ j)) λh4=>bd (wB (S.HQ kk)) λh5=>bd (ck (ww v)) λh6=>ev (.raise n p s k q u t j h1 h2 h3 h4 h5 h6))
section
variable (r:∀x e,Ev (Cs S X v x e))
noncomputable def Na (xs:List Stmt):∀es,Ev (xt S X v xs es):=List.rec (motive:=λxs=>∀es,Ev (xt S X v xs es)) (λes=>se λq=>cA.nil.elim es q (ev .nil)) (λx xs ih es=>se λq=>cA.cons.elim es q λe es=>bd (r x e) λa=>bd (ih es) λb=>ev (.cons x xs e es a b)) xs
noncomputable def dS (x:Stmt)(s:SS):Ev (Cs S X v x s):=SS.casesOn (motive_1:=λs=>Ev (Cs S X v x s)) s
 (ev (.bad x))
 (se λq=>Stmt.Pass.elim x q λp=>ev (.pass p))
 (se λq=>Stmt.Continue.elim x q λp=>ev (.cont p))
 (λe=>se λq=>Stmt.Expr.elim x q λy p=>bd (wB (nT y)) λh1=>bd (dx S v y e) λh2=>ev (.expr y p e h1 h2))
 (λu e=>se λz9=>Stmt.Assign.elim x z9 λIZ y p=>se λz9=>List.cons.elim IZ z9 λt r9=>se λz9=>List.nil.elim r9 z9<|bd (wB (nT y)) λh1=>bd (dx S v y e) λh2=>bd (W7 S v t y u) λh3=>ev (.j4 t y p u e h1 h2 h3))
 (λi w k tt it=>se λz9=>Stmt.Assign.elim x z9 λIZ y p=>se λz9=>List.cons.elim IZ z9 λt r9=>se λz9=>List.nil.elim r9 z9<|se λz9=>Expr.Name.elim t z9 λn py=>se λz9=>Expr.ListComp.elim y z9 λelt OO sc lp=>se λz9=>List.cons.elim OO z9 λg9 r9=>se λz9=>List.nil.elim r9 z9<|Comprehension.casesOn g9 λtg iter ifs a9=>se λz9=>Int.ofNat.elim a9 z9 λm9=>se λz9=>Nat.zero.elim m9 z9<|bd (ce (v.om.lookup n) (some i)) λh1=>bd (ce (v.sc.names.lookup n) (some .local)) λh2=>bd (ck (py.line==lp.line)) λh3=>bd (wB (sc.names.any λp=>p.1==n&&(p.2== .local||p.2== .cell))) λh4=>bd (dx S v iter it) λh5=>bd (ck (sI v sc (JD tg))) λh6=>bd (SJ v sc (JD tg) k elt) λh7=>bd (N0 v sc (JD tg) tt ifs) λh8=>bd (RV w tg) λh9=>bd (wB (stop iter)) λDD=>ev (.comp n py elt tg _ iter ifs sc lp p i w k tt it h1 h2 h3 h4 h5 h6 h7 h8 h9 DD))
 (λi w k it=>se λz9=>Stmt.Assign.elim x z9 λIZ y p=>se λz9=>List.cons.elim IZ z9 λt r9=>se λz9=>List.nil.elim r9 z9<|se λz9=>Expr.Name.elim t z9 λn py=>se λz9=>Expr.BinOp.elim y z9 λz o y bp=>se λz9=>Expr.Name.elim z z9 λz zp=>se λa=>Operator.Add.elim o a (se λz9=>Expr.ListComp.elim y z9 λelt OO sc lp=>se λz9=>List.cons.elim OO z9 λg9 r9=>se λz9=>List.nil.elim r9 z9<|Comprehension.casesOn g9 λtg iter ifs a9=>se λz9=>Int.ofNat.elim a9 z9 λm9=>se λz9=>Nat.zero.elim m9 z9<|se λz9=>List.nil.elim ifs z9 (bd (ce n z) λh=>bd (ck (gq v n i)) λh1=>bd (dx S v iter it) λh5=>bd (ck (sI v sc (JD tg))) λh6=>bd (SJ v sc (JD tg) k elt) λh7=>bd (RV w tg) λh9=>bd (wB (stop iter)) λDD=>ev (h▸ .lb n py zp elt tg _ iter sc lp bp p i w k it h1 h5 h6 h7 h9 DD))))
 (λi op e=>se λz9=>Stmt.AugAssign.elim x z9 λt o y q=>se λz9=>Expr.Name.elim t z9 λn p=>bd (ce (lI op) o) λh=>bd (ck (gq v n i)) λh1=>bd (ck (tE op)) λh2=>bd (dx S v y e) λh3=>ev (h▸ .pO n p y q i op e h1 h2 h3))
 (λb a op e=>se λz9=>Stmt.AugAssign.elim x z9 λt o y q=>se λz9=>Expr.Attribute.elim t z9 λw n p=>bd (ce (lI op) o) λh=>bd (ce (S.attr a) n) λh0=>bd (ck (tE op)) λh1=>bd (dx S v w b) λh2=>bd (dx S v y e) λh3=>ev (h▸h0▸ .tF w p y q a op b e h1 h2 h3))
 (λe=>se λz9=>Stmt.Return.elim x z9 λe9 p=>se λz9=>Option.some.elim e9 z9 λy=>bd (dx S v y e) λh=>ev (.ret y p e h))
 (λt a b=>se λq=>Stmt.If.elim x q λy xs ys p=>bd (dx S v y t) λh1=>bd (Na S v X r xs a) λh2=>bd (Na S v X r ys b) λh3=>ev (.ifs y xs ys p t a b h1 h2 h3))
 (λis it b=>se λq=>Stmt.For.elim x q λt y xs zs p=>se λz9=>List.nil.elim zs z9 (bd (wB (stop y)) λh1=>bd (Ys v t is) λh2=>bd (dx S v y it) λh3=>bd (Na S v X r xs b) λh4=>ev (.je t y xs p is it b h1 h2 h3 h4)))
 (λt b=>se λq=>Stmt.While.elim x q λy xs zs p=>se λz9=>List.nil.elim zs z9 (bd (dx S v y t) λh1=>bd (Na S v X r xs b) λh2=>ev (.yo y xs p t b h1 h2)))
 (λk e=>se λz9=>Stmt.Raise.elim x z9 λe9 c9 u=>se λz9=>Option.some.elim e9 z9 λe9=>se λz9=>Option.none.elim c9 z9<|se λz9=>Expr.Call.elim e9 z9 λg9 S2 GM q=>se λz9=>List.nil.elim GM z9<|se λz9=>Expr.Name.elim g9 z9 λn p=>se λz9=>List.cons.elim S2 z9 λm r9=>se λz9=>List.nil.elim r9 z9<|bd (ck (eg v n)) λh1=>bd (gC S n k) λh2=>bd (ck (X k)) λh3=>bd (wB (stop m)) λh4=>bd (dx S v m e) λh5=>bd (ck (ww v)) λh6=>ev (.raise n p m q u k e h1 h2 h3 h4 h5 h6))
 (λb k h=>se λq=>Stmt.Try.elim x q λxs hs es fs u=>se λz9=>List.cons.elim hs z9 λhd r9=>se λz9=>List.nil.elim r9 z9<|se λz9=>List.nil.elim es z9 (se λz9=>List.nil.elim fs z9 (ExceptHandler.casesOn hd λty nm hs q=>se λz9=>Option.some.elim ty z9 λty=>se λz9=>Expr.Name.elim ty z9 λn p=>se λz9=>Option.none.elim nm z9 (bd (ck (eg v n)) λh1=>bd (gC S n k) λh2=>bd (ck (X k)) λh3=>bd (Na S v X r xs b) λh4=>bd (YO S v X k hs h) λh5=>ev (.lH xs n p hs q u k b h h1 h2 h3 h4 h5)))))
 (λa i=>se λq=>Stmt.Delete.elim x q λts q=>se λz9=>List.cons.elim ts z9 λt r9=>se λz9=>List.nil.elim r9 z9<|se λz9=>Expr.Subscript.elim t z9 λo j p=>bd (dx S v o a) λh1=>bd (dx S v j i) λh2=>ev (.del o j p q a i h1 h2))
end
noncomputable def Vz:∀x e,Ev (Cs S X v x e):=Nat.rec (motive:=λu8=>∀x e,Ev (Cs S X v x e)) (λu8 u8=>none) (λu8 r=>dS S v X r) 20
end
noncomputable def Yh (K:Frag)(d:Value)(ds:List SV):Ev (tH K d ds):=eo (se λq=>Value.none.elim d q (se λz9=>List.nil.elim ds z9 (ev .no)))<|se λq=>Value.ref.elim d q λT=>se λz9=>List.cons.elim ds z9 λs r9=>se λz9=>List.nil.elim r9 z9<|se λq=>SV.int.elim s q λj=>match h:K.lookup T with
 |some ⟨c,e, .seq ⟨[.int j' t]⟩ n,s⟩=>bd (ce j' j) λq=>ev (.one (t:=t) (n:=n) h (q▸rfl))
 |_=>none
noncomputable def Rs (p:Arguments):Ev (p=⟨[],p.args,none, [], [],none,p.defaults⟩):=match p with
 |⟨[],a,none, [], [],none,d⟩=>ev (rfl)
 |_=>none
noncomputable def Oq (S:ls)(v:CV)(X:Nat->Bool)(b:FuncBody)(s:cA):Ev (∃c,b= .stmts c/\xt S X v c s):=se λq=>FuncBody.stmts.elim b q λc=>bd (Na S v X (Vz S v X) c s) λh=>ev ⟨c,rfl,h⟩
noncomputable def JL (S:ls)(v:CV)(i w:Nat)(k:EK)(tt:Option (SE×SE))(lo hi:SE)(x:Stmt):Ev (wL S v i w k tt lo hi x):=se λz9=>Stmt.Assign.elim x z9 λIZ y sp=>se λz9=>List.cons.elim IZ z9 λt r9=>se λz9=>List.nil.elim r9 z9<|se λz9=>Expr.Name.elim t z9 λn py=>se λz9=>Expr.ListComp.elim y z9 λelt OO sc lp=>se λz9=>List.cons.elim OO z9 λg9 r9=>se λz9=>List.nil.elim r9 z9<|Comprehension.casesOn g9 λtg it ifs a9=>se λz9=>Int.ofNat.elim a9 z9 λm9=>se λz9=>Nat.zero.elim m9 z9<|se λz9=>Expr.Subscript.elim it z9 λo j p=>se λz9=>Expr.Name.elim o z9 λz p1=>se λq=>Expr.Slice.elim j q λl h s p2=>se λz9=>Option.none.elim s z9 (bd (ce (v.om.lookup n) (some i)) λh1=>bd (ce (v.sc.names.lookup n) (some .local)) λh2=>bd (ck (py.line==lp.line)) λh3=>bd (wB (sc.names.any λp=>p.1==n&&(p.2== .local||p.2== .cell))) λh4=>bd (ck (gq v z 0)) λz1=>bd (Q3 S v (dx S v) l lo) λz2=>bd (Q3 S v (dx S v) h hi) λz3=>bd (ck (sI v sc (JD tg))) λh6=>bd (SJ v sc (JD tg) k elt) λh7=>bd (N0 v sc (JD tg) tt ifs) λh8=>bd (RV w tg) λh9=>ev (.mk n py elt tg _ z p1 l h p2 p ifs sc lp sp h1 h2 h3 h4 z1 z2 z3 h6 h7 h8 h9))
noncomputable def TT (S:ls)(X:Nat->Bool)(v:CV)(i w:Nat)(k:EK)(t:Option (SE×SE))(aH:cA)(b:FuncBody):Ev (∃c,b= .stmts c/\r8 S X v i w k t aH c):=se λq=>FuncBody.stmts.elim b q λc=>se λz9=>List.cons.elim c z9 λy ys=>bd (JL S v i w k t .none (.int 7) y) λh1=>bd (Na S v X (Vz S v X) ys aH) λh2=>ev ⟨_,rfl, .mk y ys h1 h2⟩
noncomputable def VL (K:Frag)(S:ls)(X:Nat->Bool)(fd:FuncData)(fi:Fn):Ev (rE K S X fd fi):=bd (ce fd.globals mainGlobals) λh1=>bd (ce fd.closure []) λh2=>bd (ce fd.builtins builtinsNs) λh3=>bd (ck (codeIn K fd.code fd.qualname)) λh4=>bd (wB fd.scope.isCoroutine) λh5=>bd (wB fd.scope.isGenerator) λh6=>bd (ce fd.scope.kind .function) λh7=>bd (Rs fd.params) λh8=>bd (ce fi.fX fd.params.args.length) λh9=>bd (ce fi.n8 (fF fd).length) λDD=>bd (cp (fF fd).Nodup) λCc=>bd (cp (∀x∈fF fd,fd.scope.names.lookup x=some .local∨fd.scope.names.lookup x=some .cell)) λKB=>bd (cp (∀a∈fd.params.args,fd.scope.names.lookup a.arg=some .local)) λJ4=>bd (cp ((cellsFrom 0 fd.scope.names []).map (·.1)).Nodup) λMA=>bd (cp (fi.cells=false->(fd.scope.names.all λp=>p.2 != .cell)=true)) λTi=>bd (Yh K fd.defaults fi.dflt) λYl=>bd (Oq S (s9 fd) X fd.body fi.body) λNA=>ev ⟨h1,h2,h3,h4,h5,h6,h7,h8,h9,DD,Cc,KB,J4,MA,Ti,Yl,NA⟩
end
end Mine
namespace Mine
noncomputable section
open PySem PySem.W PySem.Calls PyProof.Rows
noncomputable abbrev qP:Program:=PySem.Challenge.pw_no0425_01
noncomputable def R6:List Stmt->Nat->Stmt
 |x::_,0=>x
 |_::r,n+1=>R6 r n
 | [],_=> .Pass ⟨0,0,0,0⟩
noncomputable def nb (i:Nat):Stmt:=R6 qP.main.body i
noncomputable def nm (i j:Nat):Stmt:=if h:(nb i).ctorIdx=2 then Stmt.ClassDef.elim (motive_2:=λu8=>Stmt) (nb i) h λu8 u8 u8 b u8 u8 u8 u8 u8 u8 u8=>R6 b j else nb i
noncomputable def XZ (q:Str)(n:Str)(a:Arguments)(b:List Stmt)(sc:Scope):FuncData:={name:=n,qualname:=q,params:=a,body:= .stmts b,scope:=sc,globals:=builtinsNs,closure:= [],defaults:= .none,kwdefaults:= .none}
noncomputable abbrev zs:=Str.ofString
noncomputable def qt (l:List Value):Obj:=⟨.type "tuple",none, .seq ⟨l⟩ 0, #[]⟩
noncomputable def qf (l:List Value):Obj:=⟨.none,none, .fields ⟨l⟩, #[]⟩
noncomputable def qF (c:String)(l:List Value):Obj:=⟨.type c,none, .fields ⟨l⟩, #[]⟩
noncomputable def sv (s:String)(t:Nat):Value:= .str (zs s) t
noncomputable def kz (P:Params)(s:Str)(t:Nat)(v:Value):DictEntry:=⟨PyData.keyHash P s, .str s t,v⟩
noncomputable def ke (P:Params)(s:String)(t:Nat)(v:Value):DictEntry:=kz P (zs s) t v
noncomputable def ni (n:Nat)(t:Nat):Value:= .int n t
noncomputable def nl:Nat->List Str->List Value
 |_, []=> []
 |t,s::r=> .str s t::nl (t+1) r
noncomputable def qc (n q:Str)(t ln na fl a:Nat)(b:Bool)(x y z:Value)(u:Nat):Obj:=
 qF "code" [.str n t, .str q (t+1),sv "/claim/cut.py" (t+2),ni ln 0,ni na 0,ni 0 0,ni 0 0,ni fl 0, .ref a, .bool b,ni 181 0, .ref (a+1), .none,x,y,z,ni u 0,ni ln 0,sv "/claim/cut.py" (u+1)]
noncomputable def qd (c:Value)(d:Option Addr)(l:List DictEntry)(n:Nat):Obj:=⟨c,d, .dict ⟨l⟩ n, #[]⟩
noncomputable def qp (c:String)(d:Option Addr)(l:List (Option Value)):Obj:=⟨.type c,d, .plain,⟨l⟩⟩
structure It where
 o:List Obj
 e:List DictEntry
 c:List Value
 t:Nat
noncomputable def VZ (P:Params)(a t:Nat)(m d:Value)(col:Nat)(n q:Str)(ln na:Nat)(f:FuncData):Option (List Str×List Str)->It
 |some x=>⟨[qt [],qf [],qt (nl (t+3) x.1),qt [],⟨.none,none, .func f, #[]⟩,qc n q t ln na 3 a true (.ref (a+2)) (.ref (a+3)) (.ref (a+4)) (t+(3+x.1.length)),⟨.type "function",none, .func {f with globals:=mainGlobals,pyModule:=m,code:= .ref (a+5),defaults:=d,doc:= .none}, #[]⟩], [kz P n (t+(5+x.1.length)) (.ref (a+6))], [ni ln 0,ni col 0, .ref (a+5)],t+(6+x.1.length)⟩
 |none=>⟨[qt [],qf [],⟨.none,none, .func f, #[]⟩,qc n q t ln na 3 a true .none .none (.ref (a+2)) (t+3),⟨.type "function",none, .func {f with globals:=mainGlobals,pyModule:=m,code:= .ref (a+3),defaults:=d,doc:= .none}, #[]⟩], [kz P n (t+5) (.ref (a+4))], [ni ln 0,ni col 0, .ref (a+3)],t+6⟩
noncomputable def fg (P:Params)(a t:Nat)(q:Str->Str)(m d:Value)(col:Nat)(s:Stmt):It:=if h:s.ctorIdx=0 then Stmt.FunctionDef.elim (motive_2:=λu8=>It) s h λn p b u8 u8 u8 sc u8 u8 ps=>VZ P a t m d col n (q n) ps.line p.args.length (XZ (q n) n p b sc) (localNames p sc (.stmts b)) else ⟨[], [], [],t⟩
noncomputable def QU (P:Params)(m:Value)(q:Str->Str)(col:Nat):Nat->Nat->List Stmt->It
 |_,t, []=>⟨[], [], [],t⟩
 |a,t,s::r=>
  let x:=fg P a t q m .none col s
  let y:=QU P m q col (a+x.o.length) x.t r
  ⟨x.o++y.o,x.e++y.e,x.c++y.c,y.t⟩
noncomputable def Uh (P:Params)(a:Nat)(n:Str)(b:List Value)(m:Value)(T ln:Nat)(e:List DictEntry)(c:List Value):List Obj:=
 [qt b,qF "builtin_function_or_method" [.builtin "type.__prepare__", .type "type"],qd (.type "dict") none (ke P "__module__" (T+7) m::ke P "__qualname__" (T+9) (.str n (T+8))::ke P "__firstlineno__" (T+11) (ni ln (T+10))::e) (3+e.length),qt [],qf c,qc n n (T+2) ln 0 0 (a+3) false .none .none .none (T+5),
  qp "frame" none [some (.ref (a+5)),some (.ref 3),some (.ref (a+2)),none,some m,none,some (.ref 0)]]
noncomputable def cO (x:Nat)(n:Str)(b mro sub:List Value)(T:Nat)(l:Option Value)(nw:String):Obj:=⟨.type "type",none, .cls ⟨n,b, .ref (x+1)::mro,x,n,true, [],sub,false,none,false⟩,⟨[l,none,some (.str n T),some (.str n (T+8)),some (.builtin nw),some (.bool true)]⟩⟩
noncomputable def Vt (P:Params)(x:Nat)(n:Str)(b mro sub:List Value)(m:Value)(T ln:Nat)(e:List DictEntry)(k:Nat)(l:Option Value)(nw:String)(w:List Obj):List Obj:=
 qd (.type "dict") none (ke P "__module__" (T+7) m::ke P "__firstlineno__" (T+11) (ni ln (T+10))::e) k::
 cO x n b mro sub T l nw::
 (w++ [qF "super" [.ref (x+1), .ref (x+1), .ref (x+1)],qF "builtin_function_or_method" [.builtin "object.__init_subclass__", .ref (x+1)]])
noncomputable def wr (x t:Nat):Obj:=qF "getset_descriptor" [sv "__weakref__" t, .ref x, .builtin "ExceptionGroup.__weakref__", .none]
noncomputable def Rp:List Value:= [.type "Exception", .type "BaseException", .type "object"]
noncomputable def Ka (P:Params)(a T:Nat)(m:Value)(mro sub:List Nat)(s:Stmt):It:=if h:s.ctorIdx=2 then Stmt.ClassDef.elim (motive_2:=λu8=>It) s h λn u8 u8 u8 u8 u8 u8 u8 u8 u8 ps=>
  let w:=mro.isEmpty
  let b:=match mro with| []=>Value.type "Exception"|x::_=> .ref x
  let S:=T+12
  let st:=ke P "__static_attributes__" S (.ref (a+7))
  ⟨Uh P a n [b] m T ps.line [st] []++qt []::Vt P (a+8) n [b] (mro.map .ref++Rp) (sub.map .ref) m T ps.line (st::(if w then [ke P "__weakref__" (T+14) (.ref (a+10)),ke P "__doc__" (T+15) .none] else [ke P "__doc__" (T+13) .none])) (if w then 3 else 2) (some (.ref a)) "Exception.__new__" (if w then [wr (a+9) (T+13)] else []),
   [kz P n (if w then T+19 else T+15) (.ref (a+9))], [ni ps.line 0,ni 0 0, .ref (a+5)],0⟩ else ⟨[], [], [],T⟩
noncomputable def KE (P:Params)(a T:Nat)(m:Value)(dd:List Value)(s:Stmt):It:=if h:s.ctorIdx=2 then Stmt.ClassDef.elim (motive_2:=λu8=>It) s h λn u8 u8 bs u8 u8 u8 u8 u8 sa ps=>
  let q:=λf=>n++zs "."++f
  let x:=match dd with
   | []=>QU P m q 4 (a+7) (T+12) bs
   |v::_=>match bs with
    | []=>⟨[], [], [],T⟩
    |s0::r=>
     let x0:=fg P (a+8) (T+13) q m (.ref (a+7)) 4 s0
     let y:=QU P m q 4 (a+(8+x0.o.length)) x0.t r
     ⟨qt [v]::(x0.o++y.o),x0.e++y.e,x0.c++y.c,y.t⟩
  let b:=a+(7+x.o.length)
  let S:=x.t+sa.length
  let st:=ke P "__static_attributes__" S (.ref b)
  ⟨Uh P a n [] m T ps.line (x.e++ [st]) x.c++x.o++qt (nl x.t sa)::Vt P (b+1) n [.type "object"] [.type "object"] [] m T ps.line (x.e++ [st,ke P "__dict__" (S+2) (.ref (b+3)),ke P "__weakref__" (S+4) (.ref (b+4)),ke P "__doc__" (S+5) .none]) 4 none "object.__new__" [qF "getset_descriptor" [sv "__dict__" (S+1), .ref (b+2), .builtin "function.__dict__", .builtin "function.__dict__#set"],wr (b+2) (S+3)],
   [kz P n (S+7) (.ref (b+2))], [ni ps.line 0,ni 0 0, .ref (a+5)],0⟩ else ⟨[], [], [],T⟩
section
local macro_rules (kind := num) | `($n:num) => if n.getNat < 120 then Lean.Macro.throwUnsupported else `(nat_lit $n)
noncomputable def Xj (a n:Nat):List Stmt:=(qP.main.body.drop a).take n
noncomputable def kI (P:Params)(t:Nat):List (String×Nat)->List DictEntry
 | []=> []
 |(s,v)::r=>ke P s (t+1) (ni v t)::kI P (t+2) r
noncomputable def kB (P:Params)(t:Nat):List (String×UInt8)->List DictEntry
 | []=> []
 |(s,v)::r=>ke P s (t+1) (.bytes #[v] t)::kB P (t+2) r
noncomputable def PU (e:List DictEntry):It:=⟨[],e, [],0⟩
noncomputable def m1:Value:=sv "raftkeep.errors" 194
noncomputable def m2:Value:=sv "raftkeep.octets" 344
noncomputable def m3:Value:=sv "raftkeep.keys" 646
noncomputable def m4:Value:=sv "raftkeep.messages" 771
noncomputable def m5:Value:=sv "raftkeep.commands" 946
noncomputable def m6:Value:=sv "law_no0425_01" 1401
noncomputable def ts (P:Params):List It:=
 let F:=λm a t i n=>QU P m id 0 a t (Xj i n)
 [F (sv "__main__" 164) 15 187 0 1,Ka P 22 196 m1 [] [44,104] (nb 2),Ka P 35 216 m1 [31] [56,80,92] (nb 3),Ka P 47 232 m1 [44,31] [68] (nb 4),Ka P 59 248 m1 [56,44,31] [] (nb 5),Ka P 71 264 m1 [44,31] [] (nb 6),Ka P 83 280 m1 [44,31] [] (nb 7),Ka P 95 296 m1 [31] [116,128] (nb 8),Ka P 107 312 m1 [104,31] [] (nb 9),Ka P 119 328 m1 [104,31] [] (nb 10),
  PU (kI P 346 [("MAX_32",4294967295),("MAX_64",18446744073709551615)]),F m2 131 350 14 12,KE P 215 450 m2 [ni 0 462] (nb 26),KE P 300 555 m2 [] (nb 27),
  PU (kI P 648 [("KIND_DELETE",0),("KIND_VALUE",1),("MAX_SEQ",72057594037927935),("BATCH_HEAD",12)]),KE P 377 656 m3 [] (nb 33),F m3 461 763 34 1,
  PU (kI P 773 [("ENTRY_CONF",2)]),F m4 468 775 37 2,KE P 482 792 m4 [] (nb 39),KE P 531 855 m4 [] (nb 40),F m4 566 906 41 4,
  PU (kI P 948 [("CMD_NONE",0),("CMD_PUT",1),("CMD_DELETE",2),("CMD_CAS",3),("CMD_OPEN",5),("CMD_CLOSE",6),("REPLY_OK",0),("REPLY_NO",1),("REPLY_UNKNOWN",2),("REPLY_STALE",3)]),
  PU (kB P 968 [("APPLIED_KEY",97),("DATA_HEAD",100),("DATA_END",101),("SESSION_HEAD",115),("SESSION_END",116)]),
  KE P 594 978 m5 [] (nb 61),F m5 629 1032 62 9,KE P 692 1115 m5 [] (nb 71),F m5 811 1297 72 1,KE P 818 1305 m5 [] (nb 73),F m6 888 1403 75 9]
noncomputable def oA:List It->List Obj
 | []=> []
 |x::r=>x.o++oA r
noncomputable def oE:List It->List DictEntry
 | []=> []
 |x::r=>x.e++oE r
noncomputable def oC:List It->List Value
 | []=> []
 |x::r=>x.c++oC r
noncomputable def kd (P:Params)(v:Value)(e:List DictEntry)(n:Nat):Obj:=qd (.type "dict") none (ke P "__name__" 165 v::ke P "__doc__" 166 .none::ke P "__package__" 167 .none::ke P "__loader__" 168 (.builtin "__main__.__loader__#opaque")::ke P "__spec__" 169 .none::ke P "__annotations__" 170 (.ref 6)::ke P "__builtins__" 171 (.ref 4)::ke P "__file__" 173 (sv "/claim/cut.py" 172)::ke P "__cached__" 174 .none::e) n
noncomputable def UP (l:List Obj):Bool->List Obj:=List.rec (motive:=λu8=>Bool->List Obj) (λu8=> []) (λx u8 ih b=>bif b then x::ih false else ih true) l
noncomputable def bt (n:Nat):List Obj->BT:=Nat.rec (motive:=λu8=>List Obj->BT) (λu8=> .nil) (λu8 ih l=>List.rec (motive:=λu8=>BT) .nil (λx r u8=> .node x (ih (UP r true)) (ih (UP r false))) l) n
noncomputable def TF (P:Params):BT:=bt 10 (boot_o_0 P::boot_o_1 P::qd .none none [ke P "type.__subclasses__.Exception.0" 212 (.int 31 0),ke P "type.__subclasses__.Exception.n" 213 (.int 1 0)] 2::kd P m6 (oE (ts P)) 87::boot_o_4 P::boot_o_5 P::qd (.type "dict") none [] 0::qt []::qf []::boot_o_9 P::boot_o_10 P::qt []::qf (oC (ts P))::qc (zs "<module>") (zs "<module>") 182 1 0 0 11 false .none .none .none 185::qp "frame" none [some (.ref 13),some (.ref 3),some (.ref 3),none,some (sv "__main__" 164),none,some (.ref 0)]::oA (ts P))
noncomputable def Uc (n:Nat):BT->Nat->Nat->BT
 | .nil,_,_=> .nil
 | .node v l r,a,b=>match Nat.blt b n with
  |true=> .node v (Uc n l (2*a) (a+b)) (Uc n r (2*a) (2*a+b))
  |false=> .nil
noncomputable def UM (t:BT):List (Nat×Obj)->BT
 | []=>t
 |(i,o)::r=>UM (t.set i λu8=>o) r
noncomputable def dr:Drawn:=boot_drawn
noncomputable def Qx (P:Params)(n:Nat)(v:Value)(k j:Nat)(r:List (Nat×Obj)):BT:=UM (Uc n (TF P) 1 0) ((3,kd P v ((oE (ts P)).take k) (9+k))::(12,qf ((oC (ts P)).take (3*j)))::r)
noncomputable def Q0 (P:Params):BT:=Qx P 15 (sv "__main__" 164) 0 0 [(2,qd .none none [] 0)]
noncomputable def Q5 (P:Params):BT:=Qx P 71 m1 5 5 [(31,cO 30 (zs "KeepError") [.type "Exception"] Rp [.ref 44] 196 (some (.ref 22)) "Exception.__new__"),(44,cO 43 (zs "StoreError") [.ref 31] (.ref 31::Rp) [.ref 56] 216 (some (.ref 35)) "Exception.__new__")]
noncomputable def UV (P:Params):BT:=Qx P 131 m1 10 10 []
noncomputable def UX (P:Params):BT:=Qx P 300 m2 25 23 []
noncomputable def Vq (P:Params):BT:=Qx P 461 m3 31 25 []
noncomputable def UC (P:Params):BT:=Qx P 566 m4 37 30 []
noncomputable def UJ (P:Params):BT:=Qx P 692 m5 66 44 []
noncomputable def Vj (P:Params):BT:=Qx P 811 m5 67 45 []
noncomputable def Ts (P:Params):BT:=TF P
end
noncomputable def pQ:Env:={scope:=qP.main.scope,locals:=mainNs,globals:=mainNs,cells:= [],code:= .ref 13,frame:=some 14}
noncomputable def slice (l:List Stmt)(a n:Nat):List Stmt:=(l.drop a).take n
noncomputable def ic:List Stmt:=behindTheImports qP
noncomputable def cB:Code:= .body ic pQ
noncomputable def BC:List Frame:= [topFrame ⟨0,0,0,0⟩]
noncomputable def sT (T:BT)(n k:Nat)(os:OsState):SharedT:=⟨T,n,{},⟨[]⟩,boot_drawn,k,os⟩
noncomputable def HI (P:Params):Heap:=absHeap (TF P) 947 {}
end
end Mine
namespace Mine
open PySem
noncomputable abbrev nG.c:=nG.cons
noncomputable abbrev nG.n:=nG.nil
noncomputable abbrev cA.c:=cA.cons
noncomputable abbrev cA.n:=cA.nil
noncomputable abbrev Bi.y:=Bi.bytes
noncomputable abbrev Bi.u:=Bi.tuple
noncomputable abbrev Bi.L:=Bi.list
noncomputable abbrev wm.s:=wm.sub
noncomputable abbrev SE.l:=SE.loc
noncomputable abbrev SE.i:=SE.int
noncomputable abbrev SE.t:=SE.attr
noncomputable abbrev SE.q:=SE.cmp
noncomputable abbrev SE.M:=SE.eu
noncomputable abbrev SE.B:=SE.bG
noncomputable abbrev SE.F:=SE.fS
noncomputable abbrev SE.C:=SE.callC
noncomputable abbrev SE.b:=SE.bin
noncomputable abbrev SE.s:=SE.sub
noncomputable abbrev SE.y:=SE.bytes
noncomputable abbrev SE.u:=SE.tuple
noncomputable abbrev SE.L:=SE.list
noncomputable abbrev ST.t:=ST.attr
noncomputable abbrev ST.m:=ST.name
noncomputable abbrev ST.s:=ST.sub
noncomputable abbrev SS.a:=SS.j4
noncomputable abbrev SS.f:=SS.ifs
noncomputable abbrev SS.r:=SS.ret
noncomputable abbrev SS.e:=SS.expr
noncomputable def b1:cA:=(.c (.f (.or (.c (.q .lt (.l 0) (.i 0)) (.c (.q .gt (.l 0) (.l 1)) .n))) (.c .bad .n) .n) (.c (.a (.m 2) (.B .bytearray .n)) (.c (.yo (.q .ge (.l 0) (.i 128)) (.c (.e (.M (.l 2) 1 (.c (.b .bor (.b .band (.l 0) (.i 127)) (.i 128)) .n))) (.c (.pO 0 .shr (.i 7)) .n))) (.c (.e (.M (.l 2) 1 (.c (.l 0) .n))) (.c (.r (.B .y (.c (.l 2) .n))) .n)))))
noncomputable def b2:cA:=(.c (.f (.q .lt (.l 1) (.i 0)) (.c .bad .n) .n) (.c (.a (.m 4) (.i 0)) (.c (.a (.m 5) (.i 0)) (.c (.je [6] (.B .range (.c (.l 2) .n)) (.c (.f (.q .ge (.l 1) (.B .len (.c (.l 0) .n))) (.c (.raise 3 .text) .n) .n) (.c (.a (.m 7) (.s (.l 0) (.l 1))) (.c (.pO 1 .add (.i 1)) (.c (.pO 4 .bor (.b .shl (.b .band (.l 7) (.i 127)) (.l 5))) (.c (.f (.q .lt (.l 7) (.i 128)) (.c (.f (.q .gt (.l 4) (.l 3)) (.c .bad .n) .n) (.c (.r (.u (.c (.l 4) (.c (.l 1) .n)))) .n)) .n) (.c (.pO 5 .add (.i 7)) .n))))))) (.c .bad .n)))))
noncomputable def b3:cA:=(.c (.f (.and (.c (.q .ge (.l 0) (.i 0)) (.c (.q .lt (.l 0) (.i 128)) .n))) (.c (.r (.B .y (.c (.L (.c (.l 0) .n)) .n))) .n) .n) (.c (.r (.F 1 (.c (.l 0) (.c (.i 18446744073709551615) .n)))) .n))
noncomputable def b4:cA:=(.c (.f (.and (.c (.q .ge (.l 1) (.i 0)) (.c (.q .lt (.l 1) (.B .len (.c (.l 0) .n))) (.c (.q .lt (.s (.l 0) (.l 1)) (.i 128)) .n)))) (.c (.r (.u (.c (.s (.l 0) (.l 1)) (.c (.b .add (.l 1) (.i 1)) .n)))) .n) .n) (.c (.r (.F 2 (.c (.l 0) (.c (.l 1) (.c (.i 10) (.c (.i 18446744073709551615) .n)))))) .n))
noncomputable def b5:cA:=(.c (.f (.and (.c (.q .ge (.l 0) (.i 0)) (.c (.q .lt (.l 0) (.i 128)) .n))) (.c (.r (.B .y (.c (.L (.c (.l 0) .n)) .n))) .n) .n) (.c (.r (.F 1 (.c (.l 0) (.c (.i 4294967295) .n)))) .n))
noncomputable def b6:cA:=(.c (.f (.and (.c (.q .ge (.l 1) (.i 0)) (.c (.q .lt (.l 1) (.B .len (.c (.l 0) .n))) (.c (.q .lt (.s (.l 0) (.l 1)) (.i 128)) .n)))) (.c (.r (.u (.c (.s (.l 0) (.l 1)) (.c (.b .add (.l 1) (.i 1)) .n)))) .n) .n) (.c (.r (.F 2 (.c (.l 0) (.c (.l 1) (.c (.i 5) (.c (.i 4294967295) .n)))))) .n))
noncomputable def b7:cA:=(.c (.f (.or (.c (.q .lt (.l 0) (.i 0)) (.c (.q .gt (.l 0) (.i 18446744073709551615)) .n))) (.c .bad .n) .n) (.c (.a (.m 1) (.i 1)) (.c (.yo (.q .ge (.l 0) (.i 128)) (.c (.pO 0 .shr (.i 7)) (.c (.pO 1 .add (.i 1)) .n))) (.c (.r (.l 1)) .n))))
noncomputable def b8:cA:=(.c (.f (.or (.c (.q .lt (.l 0) (.i 0)) (.c (.q .gt (.l 0) (.i 4294967295)) .n))) (.c .bad .n) .n) (.c (.r (.B .y (.c (.L (.c (.b .band (.l 0) (.i 255)) (.c (.b .band (.b .shr (.l 0) (.i 8)) (.i 255)) (.c (.b .band (.b .shr (.l 0) (.i 16)) (.i 255)) (.c (.b .shr (.l 0) (.i 24)) .n))))) .n))) .n))
noncomputable def b9:cA:=(.c (.f (.or (.c (.q .lt (.l 0) (.i 0)) (.c (.q .gt (.l 0) (.i 18446744073709551615)) .n))) (.c .bad .n) .n) (.c (.r (.b .add (.F 8 (.c (.b .band (.l 0) (.i 4294967295)) .n)) (.F 8 (.c (.b .shr (.l 0) (.i 32)) .n)))) .n))
noncomputable def Wj:cA:=(.c (.a (.tup [2,1]) (.F 6 (.c (.l 0) (.c (.l 1) .n)))) (.c (.f (.q .gt (.b .add (.l 1) (.l 2)) (.B .len (.c (.l 0) .n))) (.c .bad .n) .n) (.c (.r (.u (.c (.B .y (.c (.slice (.l 0) (.l 1) (.b .add (.l 1) (.l 2))) .n)) (.c (.b .add (.l 1) (.l 2)) .n)))) .n)))
noncomputable def Xr:cA:=(.c (.f (.or (.c (.q .lt (.l 2) (.i 0)) (.c (.q .gt (.l 2) (.B .len (.c (.l 1) .n))) .n))) (.c .bad .n) .n) (.c (.a (.t (.l 0) 15) (.l 1)) (.c (.a (.t (.l 0) 4) (.l 2)) .n)))
noncomputable def Xf:cA:=(.c (.r (.b .s (.B .len (.c (.t (.l 0) 15) .n)) (.t (.l 0) 4))) .n)
noncomputable def Za:cA:=(.c (.a (.m 1) (.t (.l 0) 4)) (.c (.f (.and (.c (.q .lt (.l 1) (.B .len (.c (.t (.l 0) 15) .n))) (.c (.q .lt (.s (.t (.l 0) 15) (.l 1)) (.i 128)) .n))) (.c (.a (.t (.l 0) 4) (.b .add (.l 1) (.i 1))) (.c (.r (.s (.t (.l 0) 15) (.l 1))) .n)) .n) (.c (.a (.tup [2,1]) (.F 4 (.c (.t (.l 0) 15) (.c (.l 1) .n)))) (.c (.a (.t (.l 0) 4) (.l 1)) (.c (.r (.l 2)) .n)))))
noncomputable def XC:cA:=(.c (.a (.tup [1,2]) (.F 12 (.c (.t (.l 0) 15) (.c (.t (.l 0) 4) .n)))) (.c (.a (.t (.l 0) 4) (.l 2)) (.c (.r (.l 1)) .n)))
noncomputable def V0:cA:=(.c (.f (.q .ge (.t (.l 0) 4) (.B .len (.c (.t (.l 0) 15) .n))) (.c (.raise 3 .text) .n) .n) (.c (.a (.m 1) (.s (.t (.l 0) 15) (.t (.l 0) 4))) (.c (.f (.q .gt (.l 1) (.i 1)) (.c .bad .n) .n) (.c (.tF (.l 0) 4 .add (.i 1)) (.c (.r (.q .eq (.l 1) (.i 1))) .n)))))
noncomputable def WA:cA:=(.c (.f (.q .lt (.t (.l 0) 4) (.B .len (.c (.t (.l 0) 15) .n))) (.c (.raise 2 (.zl (.M (.l 0) 36 .n))) .n) .n) .n)
noncomputable def Yg:cA:=(.c (.a (.t (.l 0) 45) (.B .bytearray .n)) .n)
noncomputable def WD:cA:=(.c (.f (.and (.c (.q .ge (.l 1) (.i 0)) (.c (.q .lt (.l 1) (.i 128)) .n))) (.c (.e (.M (.t (.l 0) 45) 1 (.c (.l 1) .n))) .n) (.c (.e (.M (.t (.l 0) 45) 23 (.c (.F 3 (.c (.l 1) .n)) .n))) .n)) .n)
noncomputable def Wv:cA:=(.c (.e (.M (.t (.l 0) 45) 23 (.c (.F 5 (.c (.B .len (.c (.l 1) .n)) .n)) .n))) (.c (.e (.M (.t (.l 0) 45) 23 (.c (.l 1) .n))) .n))
noncomputable def Wh:cA:=(.c (.f (.or (.c (.q .lt (.l 1) (.i 0)) (.c (.q .gt (.l 1) (.i 255)) .n))) (.c .bad .n) .n) (.c (.e (.M (.t (.l 0) 45) 1 (.c (.l 1) .n))) .n))
noncomputable def Wx:cA:=(.c (.f (.l 1) (.c (.e (.M (.t (.l 0) 45) 1 (.c (.i 1) .n))) .n) (.c (.e (.M (.t (.l 0) 45) 1 (.c (.i 0) .n))) .n)) .n)
noncomputable def XW:cA:=(.c (.r (.B .y (.c (.t (.l 0) 45) .n))) .n)
noncomputable def YN:cA:=(.c (.a (.t (.l 0) 51) (.L .n)) (.c (.a (.t (.l 0) 66) (.i 12)) .n))
noncomputable def V8:cA:=(.c (.e (.M (.l 0) 61 (.c (.i 1) (.c (.B .y (.c (.l 1) .n)) (.c (.B .y (.c (.l 2) .n)) .n))))) .n)
noncomputable def WS:cA:=(.c (.e (.M (.l 0) 61 (.c (.i 0) (.c (.B .y (.c (.l 1) .n)) (.c (.y []) .n))))) .n)
noncomputable def W1:cA:=(.c (.tF (.l 0) 66 .add (.b .add (.b .add (.i 1) (.F 7 (.c (.B .len (.c (.l 2) .n)) .n))) (.B .len (.c (.l 2) .n)))) (.c (.f (.q .eq (.l 1) (.i 1)) (.c (.tF (.l 0) 66 .add (.b .add (.F 7 (.c (.B .len (.c (.l 3) .n)) .n)) (.B .len (.c (.l 3) .n)))) .n) .n) (.c (.e (.M (.t (.l 0) 51) 1 (.c (.u (.c (.l 1) (.c (.l 2) (.c (.l 3) .n)))) .n))) .n)))
noncomputable def YT:cA:=(.c (.r (.B .len (.c (.t (.l 0) 51) .n))) .n)
noncomputable def WB:cA:=(.c (.je [2,3,4] (.M (.l 1) 43 .n) (.c (.e (.M (.l 0) 61 (.c (.l 2) (.c (.l 3) (.c (.l 4) .n))))) .n)) .n)
noncomputable def YK:cA:=(.c (.r (.B .L (.c (.t (.l 0) 51) .n))) .n)
noncomputable def YB:cA:=(.c (.a (.m 1) (.L .n)) (.c (.je [2] (.B .sorted (.c (.l 0) .n)) (.c (.f (.or (.c (.not (.l 1)) (.c (.q .ne (.s (.l 1) (.neg (.i 1))) (.l 2)) .n))) (.c (.e (.M (.l 1) 1 (.c (.l 2) .n))) .n) .n) .n)) (.c (.r (.l 1)) .n)))
noncomputable def XB:cA:=(.c (.a (.m 1) (.M (.l 0) 64 .n)) (.c (.f (.q .gt (.l 1) (.M (.l 0) 36 .n)) (.c .bad .n) .n) (.c (.r (.l 1)) .n)))
noncomputable def Yt:cA:=(.c (.a (.t (.l 0) 62) (.l 1)) (.c (.a (.t (.l 0) 28) (.l 2)) (.c (.a (.t (.l 0) 32) (.l 3)) (.c (.a (.t (.l 0) 15) (.l 4)) .n))))
noncomputable def Yz:cA:=(.c (.a (.t (.l 0) 65) (.F 43 (.c (.l 1) .n))) (.c (.a (.t (.l 0) 34) (.F 43 (.c (.l 2) .n))) (.c (.a (.t (.l 0) 44) (.F 43 (.c (.l 3) .n))) (.c (.a (.t (.l 0) 35) (.F 43 (.c (.l 4) .n))) (.c (.a (.t (.l 0) 5) (.l 5)) .n)))))
noncomputable def Wk:cA:=(.c (.r (.u (.c (.B .u (.c (.t (.l 0) 65) .n)) (.c (.B .u (.c (.t (.l 0) 34) .n)) (.c (.B .u (.c (.t (.l 0) 44) .n)) (.c (.B .u (.c (.t (.l 0) 35) .n)) (.c (.t (.l 0) 5) .n))))))) .n)
noncomputable def WY:cA:=(.c (.e (.M (.l 0) 64 (.c (.B .len (.c (.l 1) .n)) .n))) (.c (.je [2] (.l 1) (.c (.e (.M (.l 0) 64 (.c (.l 2) .n))) .n)) .n))
noncomputable def WT:cA:=(.c (.a (.m 1) (.L .n)) (.c (.je [2] (.B .range (.c (.F 44 (.c (.l 0) .n)) .n)) (.c (.a (.m 3) (.M (.l 0) 64 .n)) (.c (.f (.and (.c (.l 1) (.c (.q .le (.l 3) (.s (.l 1) (.neg (.i 1)))) .n))) (.c .bad .n) .n) (.c (.e (.M (.l 1) 1 (.c (.l 3) .n))) .n)))) (.c (.r (.l 1)) .n)))
noncomputable def Wg:cA:=(.c (.a (.m 1) (.C 10 .n)) (.c (.e (.F 53 (.c (.l 1) (.c (.t (.l 0) 65) .n)))) (.c (.e (.F 53 (.c (.l 1) (.c (.t (.l 0) 34) .n)))) (.c (.e (.F 53 (.c (.l 1) (.c (.t (.l 0) 44) .n)))) (.c (.e (.F 53 (.c (.l 1) (.c (.t (.l 0) 35) .n)))) (.c (.e (.M (.l 1) 26 (.c (.t (.l 0) 5) .n))) (.c (.r (.M (.l 1) 19 .n)) .n)))))))
noncomputable def Xv:cA:=(.c (.a (.m 1) (.C 9 (.c (.l 0) .n))) (.c (.a (.m 2) (.F 54 (.c (.l 1) .n))) (.c (.a (.m 3) (.F 54 (.c (.l 1) .n))) (.c (.a (.m 4) (.F 54 (.c (.l 1) .n))) (.c (.a (.m 5) (.F 54 (.c (.l 1) .n))) (.c (.a (.m 6) (.M (.l 1) 26 .n)) (.c (.e (.M (.l 1) 19 .n)) (.c (.r (.C 13 (.c (.l 2) (.c (.l 3) (.c (.l 4) (.c (.l 5) (.c (.l 6) .n))))))) .n))))))))
noncomputable def Yd:cA:=(.c (.a (.t (.l 0) 32) (.l 1)) (.c (.a (.t (.l 0) 9) (.l 2)) (.c (.a (.t (.l 0) 41) (.l 3)) (.c (.a (.t (.l 0) 31) (.l 4)) (.c (.a (.t (.l 0) 63) (.l 5)) (.c (.a (.t (.l 0) 22) (.l 6)) .n))))))
noncomputable def Xa:cA:=(.c (.f (.or (.c (.q .lt (.t (.l 0) 32) (.i 0)) (.c (.q .gt (.t (.l 0) 32) (.i 6)) .n))) (.c (.raise 7 (.xw (.t (.l 0) 32))) .n) .n) (.c (.a (.m 1) (.C 10 .n)) (.c (.lH (.c (.e (.M (.l 1) 64 (.c (.t (.l 0) 32) .n))) (.c (.e (.M (.l 1) 64 (.c (.t (.l 0) 9) .n))) (.c (.e (.M (.l 1) 64 (.c (.t (.l 0) 41) .n))) (.c (.e (.M (.l 1) 37 (.c (.t (.l 0) 31) .n))) (.c (.e (.M (.l 1) 37 (.c (.t (.l 0) 63) .n))) (.c (.e (.F 60 (.c (.l 1) (.c (.t (.l 0) 22) .n)))) .n)))))) 4 (.raise 7)) (.c (.r (.M (.l 1) 19 .n)) .n))))
noncomputable def YH:cA:=(.c (.e (.M (.l 0) 26 (.c (.q .gh (.l 1) .none) .n))) (.c (.f (.q .gh (.l 1) .none) (.c (.e (.M (.l 0) 37 (.c (.l 1) .n))) .n) .n) .n))
noncomputable def YF:cA:=(.c (.f (.M (.l 0) 26 .n) (.c (.r (.M (.l 0) 37 .n)) .n) .n) (.c (.r .none) .n))
noncomputable def Xu:cA:=(.c (.lH (.c (.a (.m 1) (.C 9 (.c (.l 0) .n))) (.c (.a (.m 2) (.M (.l 1) 64 .n)) (.c (.a (.m 3) (.M (.l 1) 64 .n)) (.c (.a (.m 4) (.M (.l 1) 64 .n)) (.c (.a (.m 5) (.M (.l 1) 37 .n)) (.c (.a (.m 6) (.M (.l 1) 37 .n)) (.c (.a (.m 7) (.F 61 (.c (.l 1) .n))) (.c (.e (.M (.l 1) 19 .n)) .n)))))))) 2 (.raise 7)) (.c (.f (.q .gt (.l 2) (.i 6)) (.c (.raise 7 (.xw (.l 2))) .n) .n) (.c (.r (.C 14 (.c (.l 2) (.c (.l 3) (.c (.l 4) (.c (.l 5) (.c (.l 6) (.c (.l 7) .n)))))))) .n)))
noncomputable def Wl:cA:=(.c (.a (.m 2) (.C 10 .n)) (.c (.e (.M (.l 2) 42 (.c (.l 0) .n))) (.c (.e (.F 60 (.c (.l 2) (.c (.l 1) .n)))) (.c (.r (.M (.l 2) 19 .n)) .n))))
noncomputable def Yu:cA:=(.c (.r (.b .add (.y [100]) (.l 0))) .n)
noncomputable def VX:cA:=(.c (.a (.m 1) (.F 9 (.c (.l 0) .n))) (.c (.r (.b .add (.y [115]) (.B .y (.c (.L (.c (.s (.l 1) (.i 7)) (.c (.s (.l 1) (.i 6)) (.c (.s (.l 1) (.i 5)) (.c (.s (.l 1) (.i 4)) (.c (.s (.l 1) (.i 3)) (.c (.s (.l 1) (.i 2)) (.c (.s (.l 1) (.i 1)) (.c (.s (.l 1) (.i 0)) .n))))))))) .n)))) .n))
noncomputable def W2:cA:=(.c (.a (.m 1) (.i 0)) (.c (.je [2] (.slice (.l 0) (.B .len (.c (.y [115]) .n)) .none) (.c (.a (.m 1) (.b .bor (.b .shl (.l 1) (.i 8)) (.l 2))) .n)) (.c (.r (.l 1)) .n)))
noncomputable def We:cA:=(.c (.a (.m 3) (.C 10 .n)) (.c (.e (.M (.l 3) 64 (.c (.l 0) .n))) (.c (.e (.M (.l 3) 26 (.c (.l 1) .n))) (.c (.e (.M (.l 3) 37 (.c (.l 2) .n))) (.c (.r (.M (.l 3) 19 .n)) .n)))))
noncomputable def WM:cA:=(.c (.a (.m 1) (.C 9 (.c (.l 0) .n))) (.c (.a (.m 2) (.M (.l 1) 64 .n)) (.c (.a (.m 3) (.M (.l 1) 26 .n)) (.c (.a (.m 4) (.M (.l 1) 37 .n)) (.c (.e (.M (.l 1) 19 .n)) (.c (.r (.u (.c (.l 2) (.c (.l 3) (.c (.l 4) .n))))) .n))))))
noncomputable def VP:cA:=(.c (.a (.t (.l 0) 57) (.l 1)) (.c (.a (.t (.l 0) 2) (.i 0)) (.c (.a (.t (.l 0) 62) (.i 0)) (.c (.a (.t (.l 0) 11) (.y [])) (.c (.a (.t (.l 0) 20) (.i 0)) (.c (.a (.t (.l 0) 59) (.bool false)) .n))))))
noncomputable def UH:cA:=(.c (.a (.m 1) (.M (.t (.l 0) 57) 27 (.c (.y [97]) .n))) (.c (.f (.q .is (.l 1) .none) (.c (.a (.m 2) (.i 0)) (.c (.a (.m 3) (.i 0)) (.c (.a (.m 4) (.y [])) .n))) (.c (.a (.m 5) (.C 9 (.c (.l 1) .n))) (.c (.a (.m 2) (.M (.l 5) 64 .n)) (.c (.a (.m 3) (.M (.l 5) 64 .n)) (.c (.a (.m 4) (.M (.l 5) 37 .n)) (.c (.e (.M (.l 5) 19 .n)) .n)))))) (.c (.a (.m 6) .none) (.c (.f (.q .ne (.l 4) (.y [])) (.c (.a (.m 6) (.F 56 (.c (.l 4) .n))) .n) .n) (.c (.a (.t (.l 0) 2) (.l 2)) (.c (.a (.t (.l 0) 62) (.l 3)) (.c (.a (.t (.l 0) 11) (.l 4)) (.c (.a (.t (.l 0) 20) (.B .min (.c (.t (.l 0) 20) (.c (.l 2) .n)))) (.c (.e (.M (.l 0) 39 .n)) (.c (.r (.u (.c (.l 2) (.c (.l 3) (.c (.l 6) .n))))) .n))))))))))
noncomputable def Zc:cA:=(.c (.f (.M (.t (.l 0) 57) 29 .n) (.c (.a (.t (.l 0) 20) (.t (.l 0) 2)) .n) .n) .n)
noncomputable def WR:cA:=(.c (.a (.m 5) (.C 10 .n)) (.c (.e (.M (.l 5) 64 (.c (.l 2) .n))) (.c (.e (.M (.l 5) 64 (.c (.l 3) .n))) (.c (.e (.M (.l 5) 37 (.c (.l 4) .n))) (.c (.e (.M (.l 1) 47 (.c (.y [97]) (.c (.M (.l 5) 19 .n) .n)))) .n)))))
noncomputable def WZ:cA:=(.c (.f (.q .gh (.M (.t (.l 0) 57) 27 (.c (.y [97]) .n)) .none) (.c (.raise 8 .text) .n) .n) (.c (.a (.m 4) (.C 11 .n)) (.c (.a (.m 5) (.F 55 (.c (.l 3) .n))) (.c (.e (.M (.l 0) 48 (.c (.l 4) (.c (.l 1) (.c (.l 2) (.c (.l 5) .n)))))) (.c (.e (.M (.t (.l 0) 57) 67 (.c (.l 4) (.c (.bool true) .n)))) (.c (.a (.t (.l 0) 2) (.l 1)) (.c (.a (.t (.l 0) 62) (.l 2)) (.c (.a (.t (.l 0) 11) (.l 5)) (.c (.e (.M (.l 0) 39 .n)) .n)))))))))
noncomputable def HT:cA:=(.c (.f (.q .ne (.t (.l 1) 28) (.b .add (.t (.l 0) 2) (.i 1))) (.c (.raise 8 (.Aw (.c (.t (.l 1) 28) (.c (.t (.l 0) 2) .n)))) .n) .n) (.c (.a (.m 3) (.t (.l 0) 11)) (.c (.f (.q .gh (.l 2) .none) (.c (.a (.m 3) (.F 55 (.c (.l 2) .n))) .n) .n) (.c (.a (.m 4) (.C 11 .n)) (.c (.a (.m 5) .none) (.c (.a (.m 6) (.M (.l 0) 10 (.c (.l 1) .n))) (.c (.f (.q .gh (.l 6) .none) (.c (.a (.m 5) (.M (.l 0) 17 (.c (.l 6) (.c (.l 4) .n)))) .n) .n) (.c (.e (.M (.l 0) 48 (.c (.l 4) (.c (.t (.l 1) 28) (.c (.t (.l 1) 62) (.c (.l 3) .n)))))) (.c (.e (.M (.t (.l 0) 57) 67 (.c (.l 4) (.c (.t (.l 0) 59) .n)))) (.c (.a (.t (.l 0) 2) (.t (.l 1) 28)) (.c (.a (.t (.l 0) 62) (.t (.l 1) 62)) (.c (.a (.t (.l 0) 11) (.l 3)) (.c (.f (.t (.l 0) 59) (.c (.e (.M (.l 0) 39 .n)) .n) .n) (.c (.r (.l 5)) .n))))))))))))))
noncomputable def Ws:cA:=(.c (.f (.or (.c (.q .eq (.t (.l 1) 32) (.i 2)) (.c (.q .eq (.B .len (.c (.t (.l 1) 15) .n)) (.i 0)) .n))) (.c (.r .none) .n) .n) (.c (.lH (.c (.r (.F 62 (.c (.t (.l 1) 15) .n))) .n) 7 .jR) .n))
noncomputable def K6:cA:=(.c (.a (.tup [3,4,5]) (.M (.l 0) 54 (.c (.t (.l 1) 9) .n))) (.c (.f (.q .eq (.t (.l 1) 41) (.l 3)) (.c (.r (.l 5)) .n) .n) (.c (.f (.q .lt (.t (.l 1) 41) (.l 3)) (.c (.r (.F 63 (.c (.i 3) (.c .none .n)))) .n) .n) (.c (.f (.and (.c (.not (.l 4)) (.c (.q .ne (.t (.l 1) 32) (.i 5)) .n))) (.c (.r (.F 63 (.c (.i 2) (.c .none .n)))) .n) .n) (.c (.a (.m 5) (.M (.l 0) 18 (.c (.l 1) (.c (.l 2) .n)))) (.c (.a (.m 6) (.F 67 (.c (.t (.l 1) 41) (.c (.q .ne (.t (.l 1) 32) (.i 6)) (.c (.l 5) .n))))) (.c (.e (.M (.l 2) 47 (.c (.F 65 (.c (.t (.l 1) 9) .n)) (.c (.l 6) .n)))) (.c (.r (.l 5)) .n))))))))
noncomputable def Re:cA:=(.c (.a (.m 3) (.t (.l 1) 32)) (.c (.f (.or (.c (.q .eq (.l 3) (.i 0)) (.c (.q .eq (.l 3) (.i 5)) (.c (.q .eq (.l 3) (.i 6)) .n)))) (.c (.r (.F 63 (.c (.i 0) (.c .none .n)))) .n) .n) (.c (.a (.m 4) (.F 64 (.c (.t (.l 1) 31) .n))) (.c (.a (.m 5) (.M (.t (.l 0) 57) 27 (.c (.l 4) .n))) (.c (.f (.q .eq (.l 3) (.i 1)) (.c (.e (.M (.l 2) 47 (.c (.l 4) (.c (.t (.l 1) 63) .n)))) .n) (.c (.f (.q .eq (.l 3) (.i 2)) (.c (.f (.q .gh (.l 5) .none) (.c (.e (.M (.l 2) 16 (.c (.l 4) .n))) .n) .n) .n) (.c (.f (.q .eq (.l 3) (.i 3)) (.c (.f (.not (.F 84 (.c (.l 5) (.c (.t (.l 1) 22) .n)))) (.c (.r (.F 63 (.c (.i 1) (.c (.l 5) .n)))) .n) .n) (.c (.e (.M (.l 2) 47 (.c (.l 4) (.c (.t (.l 1) 63) .n)))) .n)) (.c (.f (.q .is (.l 5) .none) (.c (.e (.M (.l 2) 47 (.c (.l 4) (.c (.t (.l 1) 63) .n)))) .n) (.c (.e (.M (.l 2) 47 (.c (.l 4) (.c (.b .add (.l 5) (.t (.l 1) 63)) .n)))) .n)) .n)) .n)) .n)) (.c (.r (.F 63 (.c (.i 0) (.c (.l 5) .n)))) .n))))))
noncomputable def YG:cA:=(.c (.r (.M (.t (.l 0) 57) 27 (.c (.F 64 (.c (.l 1) .n)) .n))) .n)
noncomputable def Wz:cA:=(.c (.a (.m 2) (.M (.t (.l 0) 57) 27 (.c (.F 65 (.c (.l 1) .n)) .n))) (.c (.f (.q .is (.l 2) .none) (.c (.r (.u (.c (.neg (.i 1)) (.c (.bool false) (.c (.y []) .n))))) .n) .n) (.c (.r (.F 68 (.c (.l 2) .n))) .n)))
noncomputable def YC:cA:=(.c (.a (.tup [2,3,4]) (.M (.l 0) 54 (.c (.l 1) .n))) (.c (.f (.not (.l 3)) (.c (.r .none) .n) .n) (.c (.r (.u (.c (.l 2) (.c (.l 4) .n)))) .n)))
noncomputable def VY:cA:=(.c (.a (.m 1) (.L .n)) (.c (.je [2,3] (.M (.t (.l 0) 57) 52 (.c (.y [100]) (.c (.y [101]) (.c .none .n)))) (.c (.e (.M (.l 1) 1 (.c (.u (.c (.slice (.l 2) (.B .len (.c (.y [100]) .n)) .none) (.c (.l 3) .n))) .n))) .n)) (.c (.r (.l 1)) .n)))
noncomputable def Yn:cA:=(.c (.a (.m 1) (.L .n)) (.c (.je [2,3] (.M (.t (.l 0) 57) 52 (.c (.y [115]) (.c (.y [116]) (.c .none .n)))) (.c (.a (.tup [4,5,6]) (.F 68 (.c (.l 3) .n))) (.c (.e (.M (.l 1) 1 (.c (.u (.c (.F 66 (.c (.l 2) .n)) (.c (.l 4) (.c (.l 5) (.c (.l 6) .n))))) .n))) .n))) (.c (.r (.l 1)) .n)))
noncomputable def XH:cA:=(.c (.r (.u (.c (.t (.l 0) 2) (.c (.t (.l 0) 62) (.c (.t (.l 0) 11) (.c (.B .u (.c (.M (.l 0) 51 .n) .n)) (.c (.B .u (.c (.M (.l 0) 55 .n) .n)) .n))))))) .n)
noncomputable def Zd:cA:=(.c (.f (.or (.c (.q .is (.l 0) .none) (.c (.q .is (.l 1) .none) .n))) (.c (.r (.and (.c (.q .is (.l 0) .none) (.c (.q .is (.l 1) .none) .n)))) .n) .n) (.c (.r (.q .eq (.l 0) (.l 1))) .n))
noncomputable def X9:cA:=(.c (.a (.t (.l 0) 40) .aM) (.c (.a (.t (.l 0) 6) (.L .n)) (.c (.a (.t (.l 0) 30) (.i 0)) (.c (.a (.t (.l 0) 33) (.i 0)) .n))))
noncomputable def Vf:cA:=(.c (.f (.q .eq (.M (.l 1) 13 .n) (.i 0)) (.c (.raise 5 .text) .n) .n) (.c (.e (.M (.l 0) 60 (.c (.M (.l 1) 43 .n) .n))) (.c (.f (.l 2) (.c (.e (.M (.l 0) 58 .n)) .n) .n) (.c (.r (.t (.l 0) 33)) .n))))
noncomputable def Zh:cA:=(.c (.je [2,3,4] (.l 1) (.c (.f (.q .eq (.l 2) (.i 1)) (.c (.a (.s (.t (.l 0) 40) (.l 3)) (.l 4)) .n) (.c (.f (.q .isIn (.l 3) (.t (.l 0) 40)) (.c (.del (.t (.l 0) 40) (.l 3)) .n) .n) .n)) .n)) (.c (.e (.M (.t (.l 0) 6) 1 (.c (.l 1) .n))) (.c (.tF (.l 0) 33 .add (.B .len (.c (.l 1) .n))) .n)))
noncomputable def XY:cA:=(.c (.a (.t (.l 0) 30) (.B .len (.c (.t (.l 0) 6) .n))) .n)
noncomputable def Xw:cA:=(.c (.r (.q .eq (.t (.l 0) 30) (.B .len (.c (.t (.l 0) 6) .n)))) .n)
noncomputable def XJ:cA:=(.c (.r (.M (.t (.l 0) 40) 27 (.c (.l 1) .n))) .n)
noncomputable def XR:cA:=(.c (.f (.q .gh (.l 3) .none) (.c (.raise 4 .text) .n) .n) (.c (.a (.m 4) (.L .n)) (.c (.je [5] (.B .sorted (.c (.t (.l 0) 40) .n)) (.c (.f (.and (.c (.q .gh (.l 1) .none) (.c (.q .lt (.l 5) (.l 1)) .n))) (.c .cont .n) .n) (.c (.f (.and (.c (.q .gh (.l 2) .none) (.c (.q .ge (.l 5) (.l 2)) .n))) (.c .cont .n) .n) (.c (.e (.M (.l 4) 1 (.c (.u (.c (.l 5) (.c (.s (.t (.l 0) 40) (.l 5)) .n))) .n))) .n)))) (.c (.r (.l 4)) .n))))
noncomputable def Wa:cA:=(.c (.a (.m 2) (.b .add (.t (.l 0) 30) (.b .mod (.l 1) (.b .add (.b .s (.B .len (.c (.t (.l 0) 6) .n)) (.t (.l 0) 30)) (.i 1))))) (.c (.a (.m 3) (.C 16 .n)) (.c (.je [4] (.slice (.t (.l 0) 6) .none (.l 2)) (.c (.e (.M (.l 3) 60 (.c (.l 4) .n))) .n)) (.c (.e (.M (.l 3) 58 .n)) (.c (.r (.l 3)) .n)))))
noncomputable def WH:cA:=(.c (.r (.L (.c (.i 5) (.c (.i 300) .n)))) .n)
noncomputable def Yv:cA:=(.c (.r (.L (.c (.y []) (.c (.y [107]) .n)))) .n)
noncomputable def V1:cA:=(.c (.r (.L (.c (.i 4) (.c (.i 1) (.c (.i 3) (.c (.i 3) (.c (.i 2) (.c (.i 4) (.c (.i 6) (.c (.i 5) (.c (.i 0) (.c (.i 3) .n)))))))))))) .n)
noncomputable def X6:cA:=(.c (.r (.b .add (.s (.l 0) (.b .mod (.l 1) (.B .len (.c (.l 0) .n)))) (.b .mul (.i 31) (.b .fdiv (.l 1) (.B .len (.c (.l 0) .n)))))) .n)
noncomputable def YY:cA:=(.c (.f (.q .lt (.l 0) (.i 128)) (.c (.r (.B .y (.c (.L (.c (.l 0) .n)) .n))) .n) .n) (.c (.r (.B .y (.c (.L (.c (.b .add (.b .mod (.l 0) (.i 128)) (.i 128)) (.c (.b .fdiv (.l 0) (.i 128)) .n))) .n))) .n))
noncomputable def V9:cA:=(.c (.f (.q .is (.l 0) .none) (.c (.r (.y [0])) .n) .n) (.c (.r (.b .add (.B .y (.c (.L (.c (.i 1) (.c (.B .len (.c (.l 0) .n)) .n))) .n)) (.l 0))) .n))
noncomputable def Tn:cA:=(.c (.a (.m 2) (.L .n)) (.c (.a (.m 3) (.L .n)) (.c (.a (.m 4) .aM) (.c (.a (.m 5) (.L (.c (.L .n) (.c (.L .n) .n)))) (.c (.a (.m 6) .aM) (.c (.a (.m 7) .aM) (.c (.je [8,9,10,11,12] (.l 0) (.c (.a (.m 13) .none) (.c (.a (.m 14) (.i 1)) (.c (.f (.and (.c (.q .ge (.l 11) (.i 0)) (.c (.q .isIn (.l 11) (.l 6)) .n))) (.c (.a (.m 13) (.s (.l 6) (.l 11))) (.c (.f (.q .gt (.B .len (.c (.s (.l 5) (.s (.s (.l 1) (.l 11)) (.i 0))) .n)) (.s (.l 7) (.l 11))) (.c (.a (.m 13) (.y [3,0])) .n) .n) .n)) (.c (.f (.q .ge (.l 11) (.i 0)) (.c (.a (.tup [15,16,17,18,19,20]) (.s (.l 1) (.l 11))) (.c (.a (.m 21) (.s (.l 5) (.l 15))) (.c (.f (.and (.c (.q .ne (.l 17) (.i 5)) (.c (.or (.c (.q .eq (.B .len (.c (.l 21) .n)) (.i 0)) (.c (.q .eq (.s (.s (.l 1) (.s (.l 21) (.neg (.i 1)))) (.i 2)) (.i 6)) .n))) .n))) (.c (.a (.m 13) (.y [2,0])) .n) (.c (.a (.m 22) .none) (.c (.a (.m 23) (.bool true)) (.c (.f (.and (.c (.q .gt (.l 17) (.i 0)) (.c (.q .lt (.l 17) (.i 5)) .n))) (.c (.a (.m 22) (.M (.l 4) 27 (.c (.l 18) .n))) (.c (.a (.m 23) (.or (.c (.q .ne (.l 17) (.i 3)) (.c (.q .eq (.l 22) (.l 20)) .n)))) (.c (.f (.q .eq (.l 17) (.i 2)) (.c (.f (.q .gh (.l 22) .none) (.c (.del (.l 4) (.l 18)) (.c (.a (.m 14) (.i 2)) .n)) .n) .n) (.c (.f (.l 23) (.c (.a (.m 14) (.i 2)) (.c (.f (.and (.c (.q .eq (.l 17) (.i 4)) (.c (.q .gh (.l 22) .none) .n))) (.c (.a (.s (.l 4) (.l 18)) (.b .add (.l 22) (.l 19))) .n) (.c (.a (.s (.l 4) (.l 18)) (.l 19)) .n)) .n)) .n) .n)) .n))) .n) (.c (.a (.m 13) (.b .add (.B .y (.c (.L (.c (.ite (.l 23) (.i 0) (.i 1)) .n)) .n)) (.F 98 (.c (.l 22) .n)))) (.c (.e (.M (.l 21) 1 (.c (.l 11) .n))) (.c (.pO 14 .add (.i 1)) .n))))))) (.c (.a (.s (.l 6) (.l 11)) (.l 13)) (.c (.a (.s (.l 7) (.l 11)) (.B .len (.c (.l 21) .n))) .n))))) .n) .n)) (.c (.e (.M (.l 2) 1 (.c (.l 13) .n))) (.c (.e (.M (.l 3) 1 (.c (.l 14) .n))) .n)))))) (.c (.r (.u (.c (.l 2) (.c (.l 3) (.c (.l 4) (.c (.l 5) (.c (.l 6) .n))))))) .n))))))))
noncomputable def BU:cA:=(.c (.a (.tup [4,5,6,7,8]) (.F 99 (.c (.l 2) (.c (.l 3) .n)))) (.c (.a (.m 9) (.b .add (.b .add (.B .y (.c (.L (.c (.s (.s (.l 2) (.neg (.i 1))) (.i 1)) .n)) .n)) (.B .y (.c (.B .range (.c (.i 1) (.c (.b .add (.s (.s (.l 2) (.neg (.i 1))) (.i 1)) (.i 1)) .n))) .n))) (.y [0,0,0,0]))) (.c (.comp 11 1 (.pair (.l 1000) (.s (.l 6) (.l 1000))) .none (.B .sorted (.c (.l 6) .n))) (.c (.a (.m 12) (.L .n)) (.c (.a (.m 13) (.L (.c (.u (.c (.y [97]) (.c (.b .add (.b .add (.b .add (.F 97 (.c (.B .len (.c (.l 2) .n)) .n)) (.F 97 (.c (.s (.s (.l 2) (.neg (.i 1))) (.i 0)) .n))) (.B .y (.c (.L (.c (.B .len (.c (.l 9) .n)) .n)) .n))) (.l 9)) .n))) .n))) (.c (.lb 13 2 (.pair (.b .add (.y [100]) (.l 1000)) (.l 1001)) (.l 11)) (.c (.je [14] (.B .range (.c (.i 2) .n)) (.c (.a (.m 15) (.s (.F 93 .n) (.l 14))) (.c (.a (.m 16) .none) (.c (.f (.q .gt (.B .len (.c (.s (.l 7) (.l 14)) .n)) (.i 0)) (.c (.a (.m 17) (.s (.s (.l 7) (.l 14)) (.neg (.i 1)))) (.c (.a (.m 18) (.s (.s (.l 3) (.l 17)) (.i 1))) (.c (.a (.m 19) (.q .ne (.s (.s (.l 3) (.l 17)) (.i 2)) (.i 6))) (.c (.e (.M (.l 12) 1 (.c (.u (.c (.l 15) (.c (.l 18) (.c (.l 19) (.c (.s (.l 8) (.l 17)) .n))))) .n))) (.c (.f (.l 19) (.c (.a (.m 16) (.u (.c (.l 18) (.c (.s (.l 8) (.l 17)) .n)))) .n) .n) (.c (.a (.m 20) (.b .add (.b .add (.F 97 (.c (.l 18) .n)) (.B .y (.c (.L (.c (.ite (.l 19) (.i 1) (.i 0)) (.c (.B .len (.c (.s (.l 8) (.l 17)) .n)) .n))) .n))) (.s (.l 8) (.l 17)))) (.c (.e (.M (.l 13) 1 (.c (.u (.c (.b .add (.y [115,0,0,0,0,0,0]) (.B .y (.c (.L (.c (.b .fdiv (.l 15) (.i 256)) (.c (.b .mod (.l 15) (.i 256)) .n))) .n))) (.c (.l 20) .n))) .n))) .n))))))) .n) (.c (.f (.q .ne (.M (.l 1) 53 (.c (.l 15) .n)) (.l 16)) (.c (.r (.bool false)) .n) .n) .n))))) (.c (.je [10] (.F 94 .n) (.c (.f (.q .ne (.M (.l 1) 27 (.c (.l 10) .n)) (.M (.l 6) 27 (.c (.l 10) .n))) (.c (.r (.bool false)) .n) .n) .n)) (.c (.f (.or (.c (.q .ne (.M (.l 0) 52 (.c .none (.c .none (.c .none .n)))) (.l 13)) (.c (.q .ne (.t (.l 0) 33) (.B .sum (.c (.l 5) .n))) .n))) (.c (.r (.bool false)) .n) .n) (.c (.r (.q .eq (.M (.l 1) 50 .n) (.u (.c (.B .len (.c (.l 2) .n)) (.c (.s (.s (.l 2) (.neg (.i 1))) (.i 0)) (.c (.l 9) (.c (.B .u (.c (.l 11) .n)) (.c (.B .u (.c (.l 12) .n)) .n)))))))) .n))))))))))
noncomputable def uC:cA:=(.c (.comp 2 1 (.one (.b .mod (.l 1000) (.i 999983))) .none (.slice (.l 0) .none (.i 7))) (.c (.f (.q .eq (.B .len (.c (.l 2) .n)) (.i 0)) (.c (.a (.m 2) (.L (.c (.i 8) .n))) .n) .n) (.c (.a (.m 3) (.F 96 (.c (.l 2) (.c (.i 0) .n)))) (.c (.a (.m 4) (.C 16 .n)) (.c (.a (.m 5) (.C 15 (.c (.l 4) .n))) (.c (.f (.or (.c (.q .ne (.M (.l 5) 50 .n) (.u (.c (.i 0) (.c (.i 0) (.c (.y []) (.c (.u .n) (.c (.u .n) .n))))))) (.c (.q .ne (.M (.l 5) 38 .n) (.u (.c (.i 0) (.c (.i 0) (.c .none .n))))) .n))) (.c (.r (.bool false)) .n) .n) (.c (.a (.t (.l 5) 59) (.q .eq (.b .mod (.l 3) (.i 3)) (.i 1))) (.c (.e (.M (.l 5) 7 (.c (.i 1) (.c (.i 1) (.c (.C 13 (.c (.L (.c (.i 1) .n)) (.c (.L .n) (.c (.L .n) (.c (.L .n) (.c (.bool false) .n)))))) .n))))) (.c (.a (.m 6) (.L (.c (.u (.c (.i 1) (.c (.i 1) (.c .none (.c (.neg (.i 1)) (.c .none .n)))))) .n))) (.c (.a (.m 7) (.L .n)) (.c (.a (.m 8) (.i 1)) (.c (.a (.m 9) (.i 0)) (.c (.je [10] (.B .range (.c (.i 6) .n)) (.c (.a (.m 1) (.F 96 (.c (.l 2) (.c (.b .add (.i 1) (.l 10)) .n)))) (.c (.a (.m 11) (.b .mod (.l 1) (.i 8))) (.c (.a (.m 12) (.b .fdiv (.l 1) (.i 8))) (.c (.a (.m 13) (.b .mod (.l 12) (.i 2))) (.c (.comp 15 1 (.one (.l 1000)) (.some ((.s (.s (.l 7) (.l 1000)) (.i 0)),(.l 13))) (.B .range (.c (.B .len (.c (.l 7) .n)) .n))) (.c (.a (.m 16) (.B .len (.c (.l 6) .n))) (.c (.f (.or (.c (.q .eq (.l 10) (.i 0)) (.c (.and (.c (.q .eq (.l 11) (.i 0)) (.c (.q .eq (.l 9) (.i 1)) .n))) (.c (.and (.c (.q .eq (.B .len (.c (.l 15) .n)) (.i 0)) (.c (.or (.c (.q .eq (.l 11) (.i 3)) (.c (.q .eq (.l 11) (.i 4)) .n))) .n))) .n)))) (.c (.a (.m 11) (.i 5)) .n) .n) (.c (.f (.q .eq (.l 11) (.i 0)) (.c (.a (.m 9) (.i 1)) (.c (.a (.m 4) (.M (.l 4) 14 (.c (.l 12) .n))) (.c (.a (.m 8) (.b .add (.l 8) (.b .mod (.l 12) (.b .add (.b .s (.l 16) (.l 8)) (.i 1))))) (.c (.a (.m 17) (.C 15 (.c (.l 4) .n))) (.c (.a (.t (.l 17) 59) (.t (.l 5) 59)) (.c (.a (.m 5) (.l 17)) (.c (.a (.tup [18,19,20]) (.M (.l 5) 38 .n)) (.c (.a (.m 21) (.u (.c (.B .u (.c (.B .range (.c (.i 1) (.c (.b .add (.s (.s (.l 6) (.b .s (.l 8) (.i 1))) (.i 1)) (.i 1)) .n))) .n)) (.c (.u .n) (.c (.u .n) (.c (.u .n) (.c (.bool false) .n))))))) (.c (.f (.q .ne (.u (.c (.l 18) (.c (.l 19) (.c (.M (.l 20) 50 .n) (.c (.t (.l 5) 20) .n))))) (.u (.c (.l 8) (.c (.s (.s (.l 6) (.b .s (.l 8) (.i 1))) (.i 0)) (.c (.l 21) (.c (.l 8) .n)))))) (.c (.r (.bool false)) .n) .n) (.c (.a (.m 22) (.s (.F 99 (.c (.l 6) (.c (.l 7) .n))) (.i 0))) (.c (.je [14] (.B .range (.c (.l 8) (.c (.l 16) .n))) (.c (.f (.q .ne (.M (.l 5) 3 (.c (.s (.s (.l 6) (.l 14)) (.i 2)) (.c (.s (.s (.l 6) (.l 14)) (.i 4)) .n))) (.s (.l 22) (.l 14))) (.c (.r (.bool false)) .n) .n) .n)) (.c (.f (.t (.l 5) 59) (.c (.a (.m 8) (.l 16)) .n) .n) .n)))))))))))) (.c (.f (.q .eq (.l 11) (.i 1)) (.c (.e (.M (.l 4) 58 .n)) (.c (.e (.M (.l 5) 39 .n)) (.c (.a (.m 8) (.l 16)) .n))) (.c (.f (.and (.c (.q .eq (.l 11) (.i 2)) (.c (.q .eq (.b .mod (.l 12) (.i 4)) (.i 3)) .n))) (.c (.je [18] (.L (.c (.l 16) (.c (.b .add (.l 16) (.i 2)) .n))) (.c (.a (.m 23) (.bool false)) (.c (.lH (.c (.e (.M (.l 5) 3 (.c (.C 12 (.c (.i 9) (.c (.l 18) (.c (.i 0) (.c (.y []) .n))))) (.c (.C 13 (.c (.L (.c (.i 7) .n)) (.c (.L .n) (.c (.L .n) (.c (.L .n) (.c (.bool false) .n)))))) .n)))) .n) 8 (.setB 23 true)) (.c (.f (.not (.l 23)) (.c (.r (.bool false)) .n) .n) .n)))) .n) (.c (.a (.m 19) (.b .add (.s (.s (.l 6) (.neg (.i 1))) (.i 0)) (.b .mod (.l 1) (.i 2)))) (.c (.a (.m 21) (.s (.s (.l 6) (.neg (.i 1))) (.i 1))) (.c (.a (.m 20) .none) (.c (.a (.m 24) (.neg (.i 1))) (.c (.a (.m 25) (.i 0)) (.c (.f (.q .eq (.l 11) (.i 2)) (.c (.a (.m 26) (.y [])) (.c (.f (.q .eq (.b .mod (.l 12) (.i 4)) (.i 0)) (.c (.a (.m 25) (.i 2)) (.c (.a (.m 21) (.b .add (.i 1) (.b .mod (.b .fdiv (.l 12) (.i 4)) (.i 3)))) (.c (.a (.m 20) (.C 13 (.c (.B .L (.c (.B .range (.c (.i 1) (.c (.b .add (.l 21) (.i 1)) .n))) .n)) (.c (.L .n) (.c (.L .n) (.c (.L .n) (.c (.bool false) .n))))))) (.c (.a (.m 26) (.M (.C 14 (.c (.i 1) (.c (.i 5) (.c (.i 999) (.c (.y [107]) (.c (.y [33]) (.c .none .n))))))) 21 .n)) .n)))) (.c (.f (.q .eq (.b .mod (.l 12) (.i 4)) (.i 1)) (.c (.a (.m 26) (.b .add (.M (.C 14 (.c (.i 1) (.c (.i 5) (.c (.i 999) (.c (.y [107]) (.c (.y [33]) (.c .none .n))))))) 21 .n) (.y [0]))) .n) (.c (.f (.q .eq (.b .mod (.b .fdiv (.l 12) (.i 4)) (.i 2)) (.i 1)) (.c (.a (.m 26) (.b .add (.y [7]) (.slice (.M (.C 14 (.c (.i 1) (.c (.i 5) (.c (.i 999) (.c (.y [107]) (.c (.y [33]) (.c .none .n))))))) 21 .n) (.i 1) .none))) .n) .n) .n)) .n)) .n)) (.c (.f (.q .lt (.l 11) (.i 5)) (.c (.a (.m 24) (.s (.l 15) (.b .mod (.b .fdiv (.l 12) (.i 2)) (.B .len (.c (.l 15) .n))))) .n) (.c (.a (.m 24) (.B .len (.c (.l 7) .n))) (.c (.a (.m 27) (.i 126)) (.c (.f (.q .gt (.B .len (.c (.l 15) .n)) (.i 0)) (.c (.a (.m 27) (.b .add (.b .add (.s (.s (.l 7) (.s (.l 15) (.neg (.i 1)))) (.i 1)) (.i 1)) (.b .mod (.b .fdiv (.l 12) (.i 2)) (.i 2)))) .n) .n) (.c (.a (.tup [28,29]) (.slice (.F 99 (.c (.l 6) (.c (.l 7) .n))) (.i 2) (.i 4))) (.c (.a (.m 30) (.or (.c (.q .eq (.B .len (.c (.s (.l 29) (.l 13)) .n)) (.i 0)) (.c (.q .eq (.s (.s (.l 7) (.s (.s (.l 29) (.l 13)) (.neg (.i 1)))) (.i 2)) (.i 6)) .n)))) (.c (.a (.m 31) (.i 5)) (.c (.f (.or (.c (.not (.l 30)) (.c (.q .eq (.b .mod (.b .fdiv (.l 12) (.i 4)) (.i 4)) (.i 3)) .n))) (.c (.a (.m 31) (.s (.F 95 .n) (.b .mod (.b .fdiv (.l 12) (.i 4)) (.i 10)))) .n) .n) (.c (.a (.m 32) (.s (.F 94 .n) (.b .mod (.b .fdiv (.l 12) (.i 40)) (.i 2)))) (.c (.a (.m 33) (.s (.L (.c (.M (.l 28) 27 (.c (.l 32) .n)) (.c .none (.c (.y [120]) .n)))) (.b .mod (.b .fdiv (.l 12) (.i 80)) (.i 3)))) (.c (.e (.M (.l 7) 1 (.c (.u (.c (.l 13) (.c (.l 27) (.c (.l 31) (.c (.l 32) (.c (.B .y (.c (.L (.c (.b .add (.i 97) (.l 24)) .n)) .n)) (.c (.l 33) .n))))))) .n))) .n))))))))))) (.c (.a (.tup [13,27,31,32,34,33]) (.s (.l 7) (.l 24))) (.c (.a (.m 26) (.M (.C 14 (.c (.l 31) (.c (.s (.F 93 .n) (.l 13)) (.c (.l 27) (.c (.l 32) (.c (.l 34) (.c (.l 33) .n))))))) 21 .n)) .n)))) (.c (.a (.m 35) (.C 12 (.c (.l 19) (.c (.b .add (.l 16) (.i 1)) (.c (.l 25) (.c (.l 26) .n)))))) (.c (.e (.M (.l 6) 1 (.c (.u (.c (.l 19) (.c (.l 21) (.c (.l 35) (.c (.l 24) (.c (.l 20) .n)))))) .n))) (.c (.f (.q .ne (.M (.l 5) 3 (.c (.l 35) (.c (.l 20) .n))) (.s (.s (.F 99 (.c (.l 6) (.c (.l 7) .n))) (.i 0)) (.neg (.i 1)))) (.c (.r (.bool false)) .n) .n) (.c (.f (.t (.l 5) 59) (.c (.a (.m 8) (.b .add (.l 16) (.i 1))) .n) .n) .n))))))))))) .n)) .n)) (.c (.f (.q .ne (.u (.c (.t (.l 5) 2) (.c (.t (.l 5) 62) (.c (.t (.l 5) 20) .n)))) (.u (.c (.B .len (.c (.l 6) .n)) (.c (.s (.s (.l 6) (.neg (.i 1))) (.i 0)) (.c (.l 8) .n))))) (.c (.r (.bool false)) .n) .n) .n)))))))))) (.c (.a (.m 36) (.M (.l 4) 29 .n)) (.c (.a (.m 37) (.i 0)) (.c (.lH (.c (.e (.M (.l 5) 7 (.c (.i 7) (.c (.i 7) (.c (.C 13 (.c (.L (.c (.i 7) .n)) (.c (.L .n) (.c (.L .n) (.c (.L .n) (.c (.bool false) .n)))))) .n))))) .n) 8 (.inc 37 1)) (.c (.lH (.c (.e (.M (.l 4) 67 (.c (.C 11 .n) (.c (.bool true) .n)))) .n) 5 (.inc 37 1)) (.c (.lH (.c (.e (.M (.l 4) 52 (.c .none (.c .none (.c (.i 1) .n))))) .n) 4 (.inc 37 1)) (.c (.f (.or (.c (.q .ne (.l 37) (.i 3)) (.c (.q .ne (.l 36) (.q .eq (.l 8) (.B .len (.c (.l 6) .n)))) (.c (.q .ne (.M (.l 4) 29 .n) (.l 36)) .n)))) (.c (.r (.bool false)) .n) .n) (.c (.r (.F 100 (.c (.l 4) (.c (.l 5) (.c (.l 6) (.c (.l 7) .n)))))) .n))))))))))))))))))))
noncomputable def E3:List Fn:= [⟨"",1, [],1,false,(.cons .bad .nil)⟩,
 ⟨"",2, [],3,false,b1⟩,
 ⟨"",4, [],8,false,b2⟩,
 ⟨"",1, [],1,false,b3⟩,
 ⟨"",2, [],2,false,b4⟩,
 ⟨"",1, [],1,false,b5⟩,
 ⟨"",2, [],2,false,b6⟩,
 ⟨"",1, [],2,false,b7⟩,
 ⟨"",1, [],1,false,b8⟩,
 ⟨"",1, [],1,false,b9⟩,
 ⟨"",2, [],2,false,(.cons .bad (.cons .bad .nil))⟩,
 ⟨"",2, [],2,false,(.cons .bad (.cons .bad .nil))⟩,
 ⟨"",2, [],3,false,Wj⟩,
 ⟨"",3, [.int 0],3,false,Xr⟩,
 ⟨"",1, [],1,false,Xf⟩,
 ⟨"",1, [],3,false,Za⟩,
 ⟨"",1, [],2,false,(.cons .bad (.cons .bad (.cons .bad .nil)))⟩,
 ⟨"",1, [],2,false,(.cons .bad (.cons .bad (.cons .bad .nil)))⟩,
 ⟨"",1, [],3,false,XC⟩,
 ⟨"",1, [],2,false,(.cons .bad (.cons .bad (.cons .bad (.cons .bad .nil))))⟩,
 ⟨"",1, [],2,false,V0⟩,
 ⟨"",2, [],3,false,(.cons .bad (.cons .bad (.cons .bad (.cons .bad .nil))))⟩,
 ⟨"",1, [],1,false,WA⟩,
 ⟨"",1, [],1,false,Yg⟩,
 ⟨"",2, [],2,false,WD⟩,
 ⟨"",2, [],2,false,(.cons .bad .nil)⟩,
 ⟨"",2, [],2,false,(.cons .bad .nil)⟩,
 ⟨"",2, [],2,false,Wv⟩,
 ⟨"",2, [],2,false,Wh⟩,
 ⟨"",2, [],2,false,Wx⟩,
 ⟨"",2, [],2,false,(.cons .bad .nil)⟩,
 ⟨"",1, [],1,false,XW⟩,
 ⟨"",1, [],1,false,YN⟩,
 ⟨"",3, [],3,false,V8⟩,
 ⟨"",2, [],2,false,WS⟩,
 ⟨"",4, [],4,false,W1⟩,
 ⟨"",1, [],1,false,(.cons .bad .nil)⟩,
 ⟨"",1, [],1,false,YT⟩,
 ⟨"",1, [],1,false,(.cons .bad .nil)⟩,
 ⟨"",2, [],5,false,WB⟩,
 ⟨"",1, [],1,false,YK⟩,
 ⟨"",2, [],6,false,(.cons .bad (.cons .bad (.cons .bad (.cons .bad (.cons .bad (.cons .bad .nil))))))⟩,
 ⟨"",2, [],2,false,(.cons .bad .nil)⟩,
 ⟨"",1, [],3,false,YB⟩,
 ⟨"",1, [],2,false,XB⟩,
 ⟨"",5, [],5,false,Yt⟩,
 ⟨"",1, [],1,false,(.cons .bad .nil)⟩,
 ⟨"",1, [],1,false,(.cons .bad .nil)⟩,
 ⟨"",1, [],1,false,(.cons .bad .nil)⟩,
 ⟨"",1, [],1,false,(.cons .bad .nil)⟩,
 ⟨"",6, [],6,false,Yz⟩,
 ⟨"",1, [],1,false,Wk⟩,
 ⟨"",1, [],1,false,(.cons .bad .nil)⟩,
 ⟨"",2, [],3,false,WY⟩,
 ⟨"",1, [],4,false,WT⟩,
 ⟨"",1, [],2,false,Wg⟩,
 ⟨"",1, [],7,false,Xv⟩,
 ⟨"",7, [],7,false,Yd⟩,
 ⟨"",1, [],1,false,(.cons .bad .nil)⟩,
 ⟨"",1, [],2,false,Xa⟩,
 ⟨"",2, [],2,false,YH⟩,
 ⟨"",1, [],1,false,YF⟩,
 ⟨"",1, [],8,false,Xu⟩,
 ⟨"",2, [],3,false,Wl⟩,
 ⟨"",1, [],1,false,Yu⟩,
 ⟨"",1, [],2,false,VX⟩,
 ⟨"",1, [],3,false,W2⟩,
 ⟨"",3, [],4,false,We⟩,
 ⟨"",1, [],5,false,WM⟩,
 ⟨"",2, [],2,false,VP⟩,
 ⟨"",1, [],7,false,UH⟩,
 ⟨"",1, [],1,false,Zc⟩,
 ⟨"",5, [],6,false,WR⟩,
 ⟨"",4, [],6,false,WZ⟩,
 ⟨"",3, [],7,false,HT⟩,
 ⟨"",2, [],2,false,Ws⟩,
 ⟨"",3, [],7,false,K6⟩,
 ⟨"",3, [],6,false,Re⟩,
 ⟨"",2, [],2,false,YG⟩,
 ⟨"",2, [],3,false,Wz⟩,
 ⟨"",2, [],5,false,YC⟩,
 ⟨"",1, [],4,false,VY⟩,
 ⟨"",1, [],7,false,Yn⟩,
 ⟨"",1, [],1,false,XH⟩,
 ⟨"",2, [],2,false,Zd⟩,
 ⟨"",1, [],1,false,X9⟩,
 ⟨"",3, [],3,false,Vf⟩,
 ⟨"",2, [],5,false,Zh⟩,
 ⟨"",1, [],1,false,XY⟩,
 ⟨"",1, [],1,false,Xw⟩,
 ⟨"",2, [],2,false,XJ⟩,
 ⟨"",4, [],6,false,XR⟩,
 ⟨"",2, [],5,false,Wa⟩,
 ⟨"",0, [],0,false,WH⟩,
 ⟨"",0, [],0,false,Yv⟩,
 ⟨"",0, [],0,false,V1⟩,
 ⟨"",2, [],2,false,X6⟩,
 ⟨"",1, [],1,false,YY⟩,
 ⟨"",1, [],1,false,V9⟩,
 ⟨"",2, [],24,false,Tn⟩,
 ⟨"",4, [],21,true,BU⟩]
noncomputable def rX:List (Nat×Nat×Nat):= [(9,0,13),(9,36,14),(9,64,15),(9,24,16),(9,25,17),(9,37,18),(9,42,19),(9,26,20),(9,60,21),(9,19,22),(10,0,23),(10,64,24),(10,24,25),(10,25,26),(10,37,27),(10,42,28),(10,26,29),(10,49,30),(10,19,31),(11,0,32),(11,47,33),(11,16,34),(11,61,35),(11,8,36),(11,13,37),(11,56,38),(11,1,39),(11,43,40),(11,21,41),(12,0,45),(12,50,46),(12,12,47),(12,46,48),(12,56,49),(13,0,50),(13,50,51),(13,12,52),(14,0,57),(14,50,58),(14,21,59),(15,0,69),(15,38,70),(15,39,71),(15,48,72),(15,7,73),(15,3,74),(15,10,75),(15,17,76),(15,18,77),(15,27,78),(15,54,79),(15,53,80),(15,51,81),(15,55,82),(15,50,83),(16,0,85),(16,67,86),(16,60,87),(16,58,88),(16,29,89),(16,27,90),(16,52,91),(16,14,92)]
noncomputable def tV:List (Nat×Nat):= [(9,15),(9,4),(10,45),(11,51),(11,66),(12,62),(12,28),(12,32),(12,15),(13,65),(13,34),(13,44),(13,35),(13,5),(14,32),(14,9),(14,41),(14,31),(14,63),(14,22),(15,57),(15,2),(15,62),(15,11),(15,20),(15,59),(16,40),(16,6),(16,30),(16,33)]
noncomputable def qh (c m:Nat):List (Nat×Nat×Nat)->Option Nat
 | []=>none
 |(c',m',f)::r=>if c' =c/\m' =m then some f else qh c m r
theorem FF (c m c' m' f:Nat)(r:List (Nat×Nat×Nat)):qh c m ((c',m',f)::r)=if c' =c/\m' =m then some f else qh c m r:=rfl
noncomputable def bx:Nat->cA->cA
 |0,s=>s
 |n+1, .cons _ t=>bx n t
 |_, .nil=> .nil
noncomputable def P:PI where
 fns:=E3
 field:=λc a=>tV.contains (c,a)
 mD:=λc m=>qh c m rX
 init:=λc=>qh c 0 rX
 mc:=⟨1,23,27⟩
end Mine
namespace Mine
open PySem PySem.W PySem.Calls PyProof.Rows PySem.Spec
noncomputable section
noncomputable def XT:List Nat:= [21,137,144,151,158,165,172,179,186,193,200,207,214,229,236,243,250,257,264,271,278,285,292,313,320,327,334,341,348,355,362,369,390,397,404,411,418,425,432,439,446,453,467,474,481,495,502,509,516,523,544,551,558,572,579,586,593,607,614,621,635,642,649,656,663,670,677,684,691,705,712,719,726,733,740,747,754,761,768,775,782,789,796,803,817,831,838,845,852,859,866,873,880,894,901,908,915,922,929,936,941,946]
noncomputable def WC:List Nat:= [31,44,56,68,80,92,104,116,128,295,372,456,526,561,624,806,883]
noncomputable def HM:List String:= ["__init__", "append", "applied", "apply", "at", "auto_leave", "batches", "begin", "clear", "client", "command_of", "conf_octets", "copy", "count", "cut", "data", "delete", "do_command", "do_effect", "done", "durable", "encode", "expect", "extend", "fixed32", "fixed64", "flag", "get", "index", "is_durable", "kept", "key", "kind", "last", "learners", "learners_next", "left", "lengthed", "load", "mark_durable", "now", "number", "octet", "ops", "outgoing", "parts", "payload", "put", "put_applied", "raw", "row", "rows", "scan", "session", "session_row", "sessions", "size", "store", "sync", "sync_each", "take", "take_op", "term", "value", "varint", "voters", "weight", "write"]
noncomputable def Vd:List (String×GV):= [("_wall", .fn 0),("KeepError", .cls 0),("StoreError", .cls 1),("Corrupt", .cls 2),("ShortOctets", .cls 3),("BadOption", .cls 4),("BatchRefused", .cls 5),("ServeError", .cls 6),("BadCommand", .cls 7),("AppliedGap", .cls 8),("MAX_32", .int 4294967295),("MAX_64", .int 18446744073709551615),("write_groups", .fn 1),("read_groups", .fn 2),("put_varint", .fn 3),("read_varint", .fn 4),("put_varint32", .fn 5),("read_varint32", .fn 6),("varint_length", .fn 7),("put_fixed32", .fn 8),("put_fixed64", .fn 9),("read_fixed32", .fn 10),("read_fixed64", .fn 11),("read_lengthed", .fn 12),("Cursor", .cls 9),("Sink", .cls 10),("KIND_DELETE", .int 0),("KIND_VALUE", .int 1),("MAX_SEQ", .int 72057594037927935),("BATCH_HEAD", .int 12),("WriteBatch", .cls 11),("check_span", .fn 42),("ENTRY_CONF", .int 2),("rising", .fn 43),("take_count", .fn 44),("Entry", .cls 12),("ConfState", .cls 13),("put_ids", .fn 53),("take_ids", .fn 54),("encode_conf", .fn 55),("decode_conf", .fn 56),("CMD_NONE", .int 0),("CMD_PUT", .int 1),("CMD_DELETE", .int 2),("CMD_CAS", .int 3),("CMD_OPEN", .int 5),("CMD_CLOSE", .int 6),("REPLY_OK", .int 0),("REPLY_NO", .int 1),("REPLY_UNKNOWN", .int 2),("REPLY_STALE", .int 3),("APPLIED_KEY", .bytes [97]),("DATA_HEAD", .bytes [100]),("DATA_END", .bytes [101]),("SESSION_HEAD", .bytes [115]),("SESSION_END", .bytes [116]),("Command", .cls 14),("put_maybe", .fn 60),("take_maybe", .fn 61),("decode_command", .fn 62),("make_reply", .fn 63),("data_key", .fn 64),("session_key", .fn 65),("client_of", .fn 66),("encode_session", .fn 67),("decode_session", .fn 68),("Machine", .cls 15),("same_maybe", .fn 84),("MemStore", .cls 16),("_law_clients", .fn 93),("_law_keys", .fn 94),("_law_kinds", .fn 95),("_law_draw", .fn 96),("_law_number", .fn 97),("_law_maybe", .fn 98),("_law_read", .fn 99),("_law_whole", .fn 100),("law", .fn 101),("len", .bi .len),("bytes", .bi .bytes),("bytearray", .bi .bytearray),("range", .bi .range),("list", .bi .list),("tuple", .bi .tuple),("sorted", .bi .sorted),("min", .bi .min),("sum", .bi .sum)]
noncomputable def Nq:List String->Nat->Nat->Str
 |s::_,0,_=>zs s
 |_::r,n+1,k=>Nq r n k
 | [],_,k=>⟨#[63,k]⟩
noncomputable def TB:List Nat->Nat->Nat
 |a::_,0=>a
 |_::r,n+1=>TB r n
 | [],_=>0
noncomputable def S0:ls:=⟨λa=>Nq HM a a,TB WC,TB XT,λc a=>tV.contains (c,a),Vd.map λp=>(zs p.1,p.2),λk=>k==7⟩
noncomputable def X0:Nat->Bool:=λk=>k==2||k==3||k==4||k==5||k==7||k==8
noncomputable def VD:Option Obj->Bool
 |some ⟨_,_, .freed,_⟩=>false
 |some _=>true
 |none=>false
noncomputable def kA:List Nat:=List.range 947
noncomputable def KF (P:Params):Frag:=kA.map λa=>(a,((TF P).get a).getD default)
noncomputable def SZ (K:Frag)(f:Nat)(fi:Fn):Ev (∃oc od fd yP,K.lookup (S0.oD f)=some ⟨oc,od, .func fd,yP⟩/\rE K S0 X0 fd fi):=match K.lookup (S0.oD f) with
 |some ⟨oc,od, .func fd,yP⟩=>bd (VL K S0 X0 fd fi) λq=>ev ⟨oc,od,fd,yP,rfl,q⟩
 |_=>none
noncomputable def SG (K:Frag):List Fn->Nat->Bool
 | [],_=>true
 |fi::r,f=>(SZ K f fi).isSome&&SG K r (f+1)
noncomputable def Qm (K:Frag)(f:Nat)(fi:Fn)(i w:Nat)(k:EK)(t:Option (SE×SE))(aH:cA):Ev (ER K S0 X0 f fi i w k t aH):=match h:K.lookup (S0.oD f) with
 |some ⟨oc,od, .func fd,yP⟩=>bd (VL K S0 X0 fd fi) λq=>bd (TT S0 X0 (s9 fd) i w k t aH fd.body) λz=>ev ⟨oc,od,fd,yP,h,q,z⟩
 |_=>none
theorem R4 (w:World):(kA.all λa=>Nat.blt a 947&&VD ((TF w.params).get a))=true:=by kernel_rfl
theorem Td (w:World):SG (KF w.params) E3 0=true:=by kernel_rfl
theorem Ud (w:World):(Qm (KF w.params) 101 ⟨"",1, [],38,true,uC⟩ 2 1 (.one (.bin .mod (.loc 1000) (.int 999983))) .none (bx 1 uC)).isSome=true:=by kernel_rfl
theorem Ll {K:Frag}:∀{k i:Nat} {fi:Fn},SG K l k=true->l[i]? =some fi->∃oc od fd yP,K.lookup (S0.oD (k+i))=some ⟨oc,od, .func fd,yP⟩/\rE K S0 X0 fd fi:=by
 induction l with
 |nil=>exact λu8 e=>mZ e
 |cons f r ih=>
  intro k i fi h e
  cases i with
  |zero=>exact cq e▸Ev.get (jF h).1
  |succ i=>exact (show k+1+i=k+(i+1) from Nat.succ_add k i)▸ih (jF h).2 e
theorem Ae {T:BT}{L:List Nat}(h:(L.map λa=>(a,(T.get a).getD default)).lookup a=some o):a∈L/\o=(T.get a).getD default:=by
 induction L with
 |nil=>cases h
 |cons b L ih=>
  rw [dY,List.lookup_cons] at h
  by_cases e:a=b
  ·subst e
   rw [iV] at h
   exact ⟨.head _,(cq h).symm⟩
  ·rw [eS e] at h
   exact ⟨.tail _ (ih h).1,(ih h).2⟩
theorem DN (h:VD o=true):∃x,o=some x/\alive x=some x:=by
 cases o with
 |none=>cases h
 |some x=>
  obtain ⟨c,d,dt,sl⟩:=x
  cases dt with
  |freed=>cases h
  |_=>exact ⟨_,rfl,rfl⟩
theorem PH (w:World):(KF w.params).In (HI w.params):=λa o h=>by
 obtain ⟨h1,h2⟩:=Ae h
 have k:=List.all_eq_true.mp (R4 w) a h1
 obtain ⟨k1,k2⟩:=jF k
 refine aZ (DN k2) λx e1 e2=> ?_
 rw [e1] at h2
 subst h2
 exact (abs_get (Nat.le_of_ble_eq_true k1) e1).trans e2
noncomputable def Vw {α:Type}{p:α->Prop}(d:∀a,Ev (p a)):∀l:List α,Ev (∀a∈l,p a)
 | []=>ev λa h=>nomatch h
 |b::l=>bd (d b) λh=>bd (Vw d l) λt=>ev λa m=>(cH m).elim (λe=>e▸h) (t a)
noncomputable def Et (K:Frag)(x:Str):GV->Prop
 | .int i=>∃t,nsIn K mainGlobals x=some (some (.int i t))
 | .bytes b=>∃dm t,nsIn K mainGlobals x=some (some (.bytes dm t))/\KBw.bInts dm=b/\b.length<=big
 | .fn f=>nsIn K mainGlobals x=some (some (.ref (S0.oD f)))/\keepIn K (.ref (S0.oD f))=true
 | .cls k=>nsIn K mainGlobals x=some (some (.ref (S0.dD k)))
 | .bi b=>nsIn K mainGlobals x=some none/\bootBuiltins x=some (fm b)/\x≠ "__name__"
noncomputable def dG (K:Frag)(x:Str)(g:GV):Ev (Et K x g):=match g with
 | .int i=>(match h:nsIn K mainGlobals x with
  |some (some (.int j t))=>bd (ce j i) λq=>ev ⟨t,q▸h⟩
  |_=>none)
 | .bytes b=>(match h:nsIn K mainGlobals x with
  |some (some (.bytes dm t))=>bd (ce (KBw.bInts dm) b) λq=>bd (cp (b.length<=big)) λl=>ev ⟨dm,t,h,q,l⟩
  |_=>none)
 | .fn f=>bd (ce (nsIn K mainGlobals x) (some (some (.ref (S0.oD f))))) λa=>bd (ck (keepIn K (.ref (S0.oD f)))) λb=>ev ⟨a,b⟩
 | .cls k=>ce (nsIn K mainGlobals x) (some (some (.ref (S0.dD k))))
 | .bi b=>bd (ce (nsIn K mainGlobals x) (some none)) λa=>bd (ce (bootBuiltins x) (some (fm b))) λb=>bd (cp (x≠ "__name__")) λc=>ev ⟨a,b,c⟩
theorem S7 (w:World):(Vw (p:=λq:String×GV=>Et (KF w.params) (zs q.1) q.2) (λq=>dG (KF w.params) (zs q.1) q.2) Vd).isSome=true:=by kernel_rfl
theorem Ry (w:World):(tV.all λq=>kW (KF w.params) (S0.dD q.1)&&pu (KF w.params) (S0.dD q.1) (S0.attr q.2))=true:=by kernel_rfl
theorem OL (w:World):(rX.all λq=>kW (KF w.params) (S0.dD q.1)&&rO (KF w.params) (S0.dD q.1) (S0.attr q.2.1) (S0.oD q.2.2))=true:=by kernel_rfl
theorem RN (w:World):(rX.all λq=>q.2.1 !=0||(keepIn (KF w.params) (.ref (S0.dD q.1))&&(findIn (KF w.params) (.ref (S0.dD q.1)) "__init__"==some (some (.ref (S0.oD q.2.2)))&&isFn (KF w.params) (.ref (S0.oD q.2.2)))))=true:=by kernel_rfl
theorem O7:((HM.map zs).Nodup/\∀s∈HM,(zs s).cps[0]?≠some 63):=by decide+kernel
theorem Mx:S0.attr P.mc.append= "append"/\S0.attr P.mc.extend= "extend"/\S0.attr P.mc.get= "get":=by decide+kernel
set_option tactic.hygienic true in
theorem ou:∀{l:List (Nat×Nat×Nat)},qh c m l=some f->(c,m,f)∈l
 |(c',m',f')::r,h=>by
  rw [FF] at h
  split at h
  ·rename_i e
   cases h
   rw [<-e.1,<-e.2];exact .head _
  ·exact .tail _ (ou h)
theorem Ar:∀{n k:Nat} {s:String},l[n]? =some s->Nq l n k=zs s:=by
 induction l with
 |nil=>exact λh=>mZ h
 |cons x r ih=>
  intro n k s h
  cases n with
  |zero=>exact congrArg zs (cq h)
  |succ n=>exact ih h
theorem Ax:∀{n k:Nat},l[n]? =none->Nq l n k=⟨#[63,k]⟩:=by
 induction l with
 |nil=>exact λu8=>rfl
 |cons x r ih=>
  intro n k h
  cases n with
  |zero=>exact GG h
  |succ n=>exact ih h
theorem EL {a b:Nat}{s:String}(h:HM[a]? =some s)(e:zs s=⟨#[63,b]⟩):False:=O7.2 s (List.mem_of_getElem? h) (by rw [e];rfl)
theorem Jq (a b:Nat)(h:S0.attr a=S0.attr b):a=b:=by
 change Nq HM a a=Nq HM b b at h
 cases ea:HM[a]? with
 |none=>
  rw [Ax ea] at h
  cases eb:HM[b]? with
  |none=>
   rw [Ax eb] at h
   exact (congrArg (λz:Str=>z.cps.toList.getD 1 0) h:_)
  |some t=>rw [Ar eb] at h;exact (EL eb h.symm).elim
 |some s=>
  rw [Ar ea] at h
  cases eb:HM[b]? with
  |none=>rw [Ax eb] at h;exact (EL ea h).elim
  |some t=>
   rw [Ar eb] at h
   refine (List.getElem?_inj (l:=HM.map zs) (i:=a) (j:=b) ?_ O7.1).mp ?_
   ·rw [bI];exact (gw ea).1
   ·rw [hV,hV,ea,eb]
    exact congrArg some h
theorem ku {w:World}(h:S0.glob.lookup x=some g):Et (KF w.params) x g:=by
 refine aZ (gD (eL h)) λq hq e=> ?_
 cases e
 exact Ev.get (S7 w) q hq
theorem KP (w:World):y2 (KF w.params) P S0 where
 inj:=Jq
 fld:=rfl
 field c a h:=jF (List.all_eq_true.mp (Ry w) (c,a) (List.contains_iff_mem.mp h))
 mD c m f h:=jF (List.all_eq_true.mp (OL w) (c,m,f) (ou h))
 init c f h:=by
  have m:=ou h
  have z:=List.all_eq_true.mp (RN w) (c,0,f) m
  have z:=jF z
  have z2:=jF z.2
  exact ⟨(jF (List.all_eq_true.mp (OL w) (c,0,f) m)).1,z.1,beq_iff_eq.mp z2.1,z2.2⟩
 Qn x i h:=ku h
 FC x b h:=ku h
 R9 x f h:=ku h
 EP x k h:=ku h
 Vv x b h:=ku h
 Mw:=Mx.1
 PJ:=Mx.2.1
 IU:=Mx.2.2
theorem R0 (w:World):([2,3,4,5,7,8].all λj=>i8 (KF w.params) (S0.dD j))=true:=by kernel_rfl
theorem Th (w:World):Mt (KF w.params) S0 P X0:=by
 refine ⟨λf fi h=> ?_,λj h=> ?_⟩
 ·have z:=Ll (Td w) h
  rw [Nat.zero_add] at z
  exact z
 ·refine List.all_eq_true.mp (R0 w) j ?_
  unfold X0 at h
  simp only [Bool.or_eq_true,beq_iff_eq] at h
  simp only [List.mem_cons]
  lia
end
end Mine
namespace Mine
open PySem PySem.W PySem.Calls PyProof.Rows
noncomputable section
theorem SA (w:World):(λos=>segRunT treeTable qP w 11 (some (.ref 6)) 1 916 (sT (Q0 w.params) 15 187 os) (piecesOf (slice ic 0 6) pQ cB ⟨0,0,0,0⟩ BC))=λos=>some (.next,sT (Q5 w.params) 71 264 os,cB,⟨11,0,12,8⟩):=by kernel_rfl
theorem Oi (w:World):(λos=>segRunT treeTable qP w 11 (some (.ref 6)) 1 1122 (sT (Q5 w.params) 71 264 os) (piecesOf (slice ic 6 5) pQ cB ⟨11,0,12,8⟩ BC))=λos=>some (.next,sT (UV w.params) 131 344 os,cB,⟨21,0,22,8⟩):=by kernel_rfl
theorem OX (w:World):(λos=>segRunT treeTable qP w 11 (some (.ref 6)) 1 907 (sT (UV w.params) 131 344 os) (piecesOf (slice ic 11 16) pQ cB ⟨21,0,22,8⟩ BC))=λos=>some (.next,sT (UX w.params) 300 555 os,cB,⟨97,0,157,64⟩):=by kernel_rfl
theorem P7 (w:World):(λos=>segRunT treeTable qP w 11 (some (.ref 6)) 1 1038 (sT (UX w.params) 300 555 os) (piecesOf (slice ic 27 7) pQ cB ⟨97,0,157,64⟩ BC))=λos=>some (.next,sT (Vq w.params) 461 763 os,cB,⟨200,0,244,25⟩):=by kernel_rfl
theorem P1 (w:World):(λos=>segRunT treeTable qP w 11 (some (.ref 6)) 1 754 (sT (Vq w.params) 461 763 os) (piecesOf (slice ic 34 7) pQ cB ⟨200,0,244,25⟩ BC))=λos=>some (.next,sT (UC w.params) 566 906 os,cB,⟨280,0,293,16⟩):=by kernel_rfl
theorem Qo (w:World):(λos=>segRunT treeTable qP w 11 (some (.ref 6)) 1 849 (sT (UC w.params) 566 906 os) (piecesOf (slice ic 41 30) pQ cB ⟨280,0,293,16⟩ BC))=λos=>some (.next,sT (UJ w.params) 692 1115 os,cB,⟨410,0,416,33⟩):=by kernel_rfl
theorem Oe (w:World):(λos=>segRunT treeTable qP w 11 (some (.ref 6)) 1 712 (sT (UJ w.params) 692 1115 os) (piecesOf (slice ic 71 1) pQ cB ⟨410,0,416,33⟩ BC))=λos=>some (.next,sT (Vj w.params) 811 1297 os,cB,⟨417,0,563,102⟩):=by kernel_rfl
theorem PT (w:World):(λos=>segRunT treeTable qP w 11 (some (.ref 6)) 1 773 (sT (Vj w.params) 811 1297 os) (piecesOf (slice ic 72 12) pQ cB ⟨417,0,563,102⟩ BC))=λos=>some (.next,sT (Ts w.params) 947 1485 os,cB,⟨708,0,821,49⟩):=by kernel_rfl
end
noncomputable section
theorem SR (w:World):(λos=>topGo treeTable qP w 11 (some (.ref 6)) 12 ⟨boot_heap w.params,⟨[]⟩,boot_drawn,boot_toks,os⟩ (topStub qP))=λos=>some ((sT (Q0 w.params) 15 187 os).abs,⟨denote treeTable cB,cB,⟨0,0,0,0⟩,BC⟩):=by kernel_rfl
theorem T3 (w:World):(λos=>segRun treeTable qP w 11 (some (.ref 6)) 1 1 (sT (Q0 w.params) 15 187 os).abs (blockOf ic pQ cB ⟨0,0,0,0⟩ BC))=λos=>some (.next,(sT (Q0 w.params) 15 187 os).abs,cB,⟨0,0,0,0⟩):=by kernel_rfl
theorem RW (w:World):(λos=>topRun treeTable qP w 11 (some (.ref 6)) 2 (sT (Ts w.params) 947 1485 os).abs ⟨doneF .next,cB,⟨708,0,821,49⟩,BC⟩)=λos=>some (sT (Ts w.params) 947 1485 os).abs:=by kernel_rfl
theorem qL {n N a m:Nat}(h:segRunT treeTable qP w 11 (some (.ref 6)) 1 n s (piecesOf (slice ic a m) pQ cB pos BC)=some (.next,s',cB,p'))
  (k:topRun treeTable qP w 11 (some (.ref 6)) N s'.abs (restOf (ic.drop (a+m)) pQ cB p' BC)=some r):topRun treeTable qP w 11 (some (.ref 6)) (n+N) s.abs (restOf (ic.drop a) pQ cB pos BC)=some r:=by
 have e:ic.drop a=slice ic a m++ic.drop (a+m):=by
  unfold slice
  rw [<-List.drop_drop];exact (List.take_append_drop m _).symm
 rw [e]
 exact piece_app (segRun_of h) k
theorem Ss:ic.drop 84= []:=by kernel_rfl
theorem Sa (w:World)(os:OsState):topRun treeTable qP w 11 (some (.ref 6)) 7200 ⟨boot_heap w.params,⟨[]⟩,boot_drawn,boot_toks,os⟩ (topStub qP)=some ⟨HI w.params,⟨[]⟩,boot_drawn,1485,os⟩:=by
 have z:=go_top (congrFun (SR w) os) (piece_block (congrFun (T3 w) os) (qL (a:=0) (congrFun (SA w) os) (qL (congrFun (Oi w) os) (qL (congrFun (OX w) os) (qL (congrFun (P7 w) os) (qL (congrFun (P1 w) os)
  (qL (congrFun (Qo w) os) (qL (congrFun (Oe w) os) (qL (congrFun (PT w) os) (by rw [Ss];exact piece_nil (congrFun (RW w) os)))))))))))
 exact topRun_mono 114 _ _ _ _ z
noncomputable def q1:Program:=view qP [83]
noncomputable def pJ:List Str:=(["__name__", "__doc__", "__package__", "__loader__", "__spec__", "__annotations__", "__builtins__", "__file__", "__cached__"]:List String).map zs++qP.boundNames.filter (· !=zs "law")
theorem Pw:opening qP=plainProg qP.main.scope.names:=by kernel_rfl
theorem Mb:(λs=>fenceModules? qP s)=λs=>some s:=by kernel_rfl
theorem PC (w:World):((boot_heap w.params).isNs mainGlobals&&(⟨[]⟩:Array GenState).size==0,(boot_heap w.params).objs.size,(boot_heap w.params).nsMap mainGlobals "__annotations__")=(true,11,some (.ref 6)):=by kernel_rfl
theorem OS (w:World):(λos:OsState=>(staticsOk (importedModules qP.main.body) (boot_heap w.params) (HI w.params)&&namesBound qP (HI w.params)&&gensDone ⟨HI w.params,⟨[]⟩,boot_drawn,1485,os⟩&&laidKept (boot_heap w.params) (HI w.params)))=λu8=>true:=by kernel_rfl
theorem Qq (w:World):(λos:OsState=>openSeen q1 pJ (importedModules qP.main.body) (λu8=>true) true ⟨HI w.params,⟨[]⟩,boot_drawn,1485,os⟩)=λu8=>openGood q1 pJ:=by kernel_rfl
noncomputable def dL:DefRec:=if h:(nb 83).ctorIdx=0 then Stmt.FunctionDef.elim (motive_2:=λu8=>DefRec) (nb 83) h λn a b u8 u8 u8 sc u8 u8 p=>⟨n,a,b,sc,p⟩ else ⟨zs "",⟨[], [],none, [], [],none, []⟩, [],qP.main.scope,⟨0,0,0,0⟩⟩
theorem Sq:defOf q1 (zs "law")=some (dL, []):=by kernel_rfl
theorem SD:qP.theDef (zs "law")=some (dL.params,dL.body,dL.scope):=by kernel_rfl
theorem TC:kwWritten? dL.params.kwonlyargs dL.params.kw_defaults=some []:=by kernel_rfl
end
end Mine
namespace Mine
open PySem
noncomputable def eR (cells:Bool)(o:cQ):dz SV:=match o with
 | .next _ H=> .ok .none H
 | .ret v H=> .ok v H
 | .exc c _ H=>if cells then .bad else .exc c H
 | .jw c H=>if cells then .bad else .exc c H
 |_=> .bad
noncomputable def cL:cA->SS
 | .cons h _=>h
 | .nil=> .pass
noncomputable def nj:SS->cA
 | .ifs _ a _=>a
 |_=> .nil
noncomputable def km:SS->cA
 | .ifs _ _ b=>b
 |_=> .nil
noncomputable def te:SS->cA
 | .je _ _ b=>b
 |_=> .nil
theorem V6 {P:Prop}(h:∀G:Prop,(P->G)->G):P:=h P id
theorem sQ {d f:Nat}(h:P.fns[f]? =some fi)(h2:uF fi as=some Ja):
  run P (d+1) f as H=eR fi.cells (aK P (run P d) fi.body (Ja.map some++List.replicate (fi.n8 - fi.fX) none) H):=by
 show (match P.fns[f]? with
  |some fi=>(match uF fi as with
   |some as=>eR fi.cells (aK P (run P d) fi.body (as.map some++List.replicate (fi.n8 - fi.fX) none) H)
   |none=> .bad)
  |none=> .bad)=_
 rw [h]
 dsimp only
 rw [h2]
theorem aF {d f:Nat}(h:P.fns[f]? =some fi)(h2:uF fi as=some Ja)(e:aK P (run P d) fi.body (Ja.map some++List.replicate (fi.n8 - fi.fX) none) H= .ret v H'):run P (d+1) f as H= .ok v H' :=by
 rw [sQ h h2,e];rfl
theorem bW {d f:Nat}(h:P.fns[f]? =some fi)(h2:uF fi as=some Ja)(e:aK P (run P d) fi.body (Ja.map some++List.replicate (fi.n8 - fi.fX) none) H= .next l H'):run P (d+1) f as H= .ok .none H' :=by
 rw [sQ h h2,e];rfl
theorem SU {d f k:Nat}(h:P.fns[f]? =some fi)(hc:fi.cells=false)(h2:uF fi as=some Ja)(e:aK P (run P d) fi.body (Ja.map some++List.replicate (fi.n8 - fi.fX) none) H= .exc k l H'):run P (d+1) f as H= .exc k H' :=by
 rw [sQ h h2,e,hc];rfl
theorem lf {d f k:Nat}(h:P.fns[f]? =some fi)(hc:fi.cells=false)(h2:uF fi as=some Ja)(e:aK P (run P d) fi.body (Ja.map some++List.replicate (fi.n8 - fi.fX) none) H= .jw k H'):run P (d+1) f as H= .exc k H' :=by
 rw [sQ h h2,e,hc];rfl
section
variable {R:au}{l l' :cR}{H H1 H2 H3 H' :HP}{s:SS}{r a b:cA}{e e1 e2:SE}{es:nG}{v x y:SV}{vs:List SV}{o:cQ}{i k m f c:Nat}
theorem ae (h:gJ P R s l H= .next l' H')(h2:aK P R r l' H' =o):aK P R (.cons s r) l H=o:=by
 show (match gJ P R s l H with| .next l H=>aK P R r l H|o=>o)=_
 rw [h];exact h2
theorem aY (h:gJ P R s l H= .ret v H'):aK P R (.cons s r) l H= .ret v H' :=by
 show (match gJ P R s l H with| .next l H=>aK P R r l H|o=>o)=_
 rw [h]
theorem vI (h:gJ P R s l H= .exc k l' H'):aK P R (.cons s r) l H= .exc k l' H' :=by
 show (match gJ P R s l H with| .next l H=>aK P R r l H|o=>o)=_
 rw [h]
theorem gZ (h:gJ P R s l H= .jw k H'):aK P R (.cons s r) l H= .jw k H' :=by
 show (match gJ P R s l H with| .next l H=>aK P R r l H|o=>o)=_
 rw [h]
theorem aj:aK P R .nil l H= .next l H:=rfl
theorem eZ (h:gK P R e l H= .ok true H')(h2:aK P R a l H' =o):gJ P R (.ifs e a b) l H=o:=by
 show (gK P R e l H).then l _=_
 rw [h];exact h2
theorem cF (h:gK P R e l H= .ok false H')(h2:aK P R b l H' =o):gJ P R (.ifs e a b) l H=o:=by
 show (gK P R e l H).then l _=_
 rw [h];exact h2
theorem bK (h:bj P R e l H= .ok v H'):gJ P R (.ret e) l H= .ret v H' :=by
 show (bj P R e l H).then l _=_
 rw [h];rfl
theorem bJ (h:bj P R e l H= .ok v H'):gJ P R (.j4 (.name i) e) l H= .next (al l i v) H' :=by
 show (bj P R e l H).then l _=_
 rw [h];rfl
theorem lu (h:bj P R e l H= .ok (.tuple vs) H')(hl:is.length=vs.length):gJ P R (.j4 (.tup is) e) l H= .next (dJ l is vs) H' :=by
 show (bj P R e l H).then l _=_
 rw [h]
 show (if is.length=vs.length then cQ.next (dJ l is vs) H' else .bad)=_
 rw [if_pos hl]
theorem bU (h:bj P R e l H= .ok v H1)(h2:bj P R e1 l H1= .ok x H2)(h3:bD P x i v H2=some H3):gJ P R (.j4 (.attr e1 i) e) l H= .next l H3:=by
 show (bj P R e l H).then l _=_
 rw [h]
 show (bj P R e1 l H1).then l _=_
 rw [h2]
 show (match bD P x i v H2 with|some H=>cQ.next l H|none=> .bad)=_
 rw [h3]
theorem bZ (h:bj P R e l H= .ok .none H'):gJ P R (.expr e) l H= .next l H' :=by
 show (bj P R e l H).then l _=_
 rw [h];rfl
theorem bc (h:l[i]? =some (some v)):bj P R (.loc i) l H= .ok v H:=by
 show (match l[i]? with|some (some v)=>dz.ok v H|_=> .bad)=_
 rw [h]
theorem aE (h:bj P R e l H= .ok (.ref k) H1)(h2:H1[k]? =some (.inst c fs))(h3:fQ i fs=some v):bj P R (.attr e i) l H= .ok v H1:=by
 show (bj P R e l H).bind _=_
 rw [h]
 show (match H1[k]? with|some (.inst _ fs)=>(match fQ i fs with|some v=>dz.ok v H1|none=> .bad)|_=> .bad)=_
 rw [h2]
 dsimp only
 rw [h3]
theorem aJ {op:wm}(h:bj P R e l H= .ok x H1)(h2:bj P R e1 l H1= .ok y H2){o:dz SV}(h3:cE op x y H2=o):bj P R (.bin op e e1) l H=o:=by
 show (bj P R e l H).bind _=_
 rw [h]
 show (bj P R e1 l H1).bind _=_
 rw [h2];exact h3
theorem aN (h:bj P R e l H= .ok x H1)(h2:bj P R e1 l H1= .ok y H2){o:dz SV}(h3:dH x y H2=o):bj P R (.sub e e1) l H=o:=by
 show (bj P R e l H).bind _=_
 rw [h]
 show (bj P R e1 l H1).bind _=_
 rw [h2];exact h3
theorem an (h:bj P R e l H= .ok x H1)(h2:bj P R e1 l H1= .ok y H2)(h3:bV op x y H2=some q):gK P R (.cmp op e e1) l H= .ok q H2:=by
 show (bj P R e l H).bind _=_
 rw [h]
 show (bj P R e1 l H1).bind _=_
 rw [h2]
 show fj (bV op x y H2) H2=_
 rw [h3];rfl
theorem cM (h:pc P R es l H= .ok q H'):gK P R (.and es) l H= .ok q H' :=h
theorem fu (h:q8 P R es l H= .ok q H'):gK P R (.or es) l H= .ok q H' :=h
theorem fP:pc P R .nil l H= .ok true H:=rfl
theorem dP (h:gK P R e l H= .ok true H1)(h2:pc P R es l H1= .ok q H2):pc P R (.cons e es) l H= .ok q H2:=by
 show (gK P R e l H).bind _=_
 rw [h];exact h2
theorem iU (h:gK P R e l H= .ok false H1):pc P R (.cons e es) l H= .ok false H1:=by
 show (gK P R e l H).bind _=_
 rw [h];rfl
theorem fb:q8 P R .nil l H= .ok false H:=rfl
theorem cZ (h:gK P R e l H= .ok false H1)(h2:q8 P R es l H1= .ok q H2):q8 P R (.cons e es) l H= .ok q H2:=by
 show (gK P R e l H).bind _=_
 rw [h];exact h2
theorem j0 (h:gK P R e l H= .ok true H1):q8 P R (.cons e es) l H= .ok true H1:=by
 show (gK P R e l H).bind _=_
 rw [h];rfl
theorem af:dM P R .nil l H= .ok [] H:=rfl
theorem aa (h:bj P R e l H= .ok v H1)(h2:dM P R es l H1= .ok vs H2):dM P R (.cons e es) l H= .ok (v::vs) H2:=by
 show (bj P R e l H).bind _=_
 rw [h]
 show (dM P R es l H1).bind _=_
 rw [h2];rfl
theorem bE (h:dM P R es l H= .ok vs H1):bj P R (.list es) l H= .ok (.ref H1.length) (H1++ [.list vs]):=by
 show (dM P R es l H).bind _=_
 rw [h];rfl
theorem cX (h:dM P R es l H= .ok vs H1):bj P R (.tuple es) l H= .ok (.tuple vs) H1:=by
 show (dM P R es l H).bind _=_
 rw [h];rfl
theorem cz (h:dM P R es l H= .ok vs H1){o:dz SV}(h2:R f vs H1=o):bj P R (.fS f es) l H=o:=by
 show (dM P R es l H).bind _=_
 rw [h];exact h2
theorem bq {b:Bi}(h:dM P R es l H= .ok vs H1){o:dz SV}(h2:Mine.bG b vs H1=o):bj P R (.bG b es) l H=o:=by
 show (dM P R es l H).bind _=_
 rw [h];exact h2
theorem lw (h:dM P R es l H= .ok vs H1)(hi:P.init c=some f)(h2:R f (.ref H1.length::vs) (H1++ [.inst c []])= .ok .none H2):bj P R (.callC c es) l H= .ok (.ref H1.length) H2:=by
 show (dM P R es l H).bind _=_
 rw [h]
 show lq P R c vs H1=_
 unfold lq
 rw [hi]
 show (R f (.ref H1.length::vs) (H1++ [.inst c []])).bind _=_
 rw [h2];rfl
theorem aw (h:bj P R e l H= .ok v H1){q:MK}(h2:d7 P v m H1=some q)(h3:dM P R es l H1= .ok vs H2){o:dz SV}(h4:dl R q v vs H2=o):bj P R (.eu e m es) l H=o:=by
 show (bj P R e l H).bind _=_
 rw [h]
 show (fj (d7 P v m H1) H1).bind _=_
 rw [h2]
 show (dM P R es l H1).bind _=_
 rw [h3];exact h4
theorem R7 (h:H[k]? =some (.inst c fs))(h2:P.mD c m=some f)(h3:fQ m fs=none):d7 P (.ref k) m H=some (.fn f):=by
 show (match H[k]? with
  |some (.inst c fs)=>(match P.mD c m,fQ m fs with|some f,none=>some (MK.fn f)|_,_=>none)
  |some (.list _)=>if m=P.mc.append then some .nf else none
  |some (.cj _)=>if m=P.mc.append then some .pz else if m=P.mc.extend then some .oV else none
  |some .aM=>if m=P.mc.get then some .iW else none
  |some (.cg _)=>if m=P.mc.get then some .iW else none
  |some (.dB _)=>if m=P.mc.get then some .iW else none
  |none=>none)=_
 rw [h]
 dsimp only
 rw [h2,h3]
theorem pZ {n a:Int}(h:decide (a<=n)=q):bV .ge (.int n) (.int a) H=some q:=congrArg some h
theorem jI {n a:Int}(h:decide (a<n)=q):bV .gt (.int n) (.int a) H=some q:=congrArg some h
theorem gv {n a:Int}(h:decide (n<a)=q):bV .lt (.int n) (.int a) H=some q:=congrArg some h
end
noncomputable def vX (so:SO)(m:Nat):Option MK:=match so with
 | .inst c fs=>(match P.mD c m,fQ m fs with|some f,none=>some (MK.fn f)|_,_=>none)
 | .list _=>if m=1 then some .nf else none
 | .cj _=>if m=1 then some .pz else if m=23 then some .oV else none
 | .aM=>if m=27 then some .iW else none
 | .cg _=>if m=27 then some .iW else none
 | .dB _=>if m=27 then some .iW else none
section
variable {R:au}{l l' :cR}{H H1 H2 H3 H' :HP}{b:cA}{e:SE}{v:SV}{o:cQ}{i k m:Nat}
theorem VQ {n:Nat}(h:test l H= .ok true H1)(h2:body l H1= .next l' H2)(h3:whileLoop test body n l' H2=o):whileLoop test body (n+1) l H=o:=by
 show (match test l H with
  | .ok false H=>cQ.next l H
  | .ok true H=>(match body l H with| .next l H=>whileLoop test body n l H|_=> .bad)
  |_=> .bad)=_
 rw [h]
 show (match body l H1 with| .next l H=>whileLoop test body n l H|_=> .bad)=_
 rw [h2];exact h3
theorem U4 {test:cR->HP->dz Bool}{n:Nat}(h:test l H= .ok false H1):whileLoop test body (n+1) l H= .next l H1:=by
 show (match test l H with
  | .ok false H=>cQ.next l H
  | .ok true H=>(match body l H with| .next l H=>whileLoop test body n l H|_=> .bad)
  |_=> .bad)=_
 rw [h]
theorem tQ {a c:Int}(h:l[i]? =some (some (.int a)))(h2:bj P R e l H= .ok (.int c) H1)(h3:cE op (.int a) (.int c) H1= .ok v H2):gJ P R (.pO i op e) l H= .next (al l i v) H2:=by
 show (match l[i]? with
  |some (some (.int a))=>(bj P R e l H).then l λv H=>(match v with
   | .int b=>(cE op (.int a) (.int b) H).then l λv H=>cQ.next (al l i v) H
   |_=> .bad)
  |_=> .bad)=_
 rw [h]
 show (bj P R e l H).then l _=_
 rw [h2]
 show (cE op (.int a) (.int c) H1).then l _=_
 rw [h3];rfl
theorem bO (h:H[k]? =some so):d7 P (.ref k) m H=vX so m:=by
 show (match H[k]? with
  |some (.inst c fs)=>(match P.mD c m,fQ m fs with|some f,none=>some (MK.fn f)|_,_=>none)
  |some (.list _)=>if m=P.mc.append then some .nf else none
  |some (.cj _)=>if m=P.mc.append then some .pz else if m=P.mc.extend then some .oV else none
  |some .aM=>if m=P.mc.get then some .iW else none
  |some (.cg _)=>if m=P.mc.get then some .iW else none
  |some (.dB _)=>if m=P.mc.get then some .iW else none
  |none=>none)=_
 rw [h]
 cases so<;>rfl
theorem D5 {x:Int}(h:H[k]? =some (.cj bs))(h0:0<=x)(h1:x<256)(h2:bs.length<big):dl R .pz (.ref k) [.int x] H= .ok .none (H.set k (.cj (bs++ [x]))):=by
 show (match H[k]? with
   |some (.cj b)=>if l6 x=true/\b.length<big then dz.ok SV.none (H.set k (.cj (b++ [x]))) else .bad
   |_=> .bad)=_
 rw [h]
 exact if_pos ⟨by unfold l6;rw [bf h0,bf h1];rfl,h2⟩
theorem O9 (h:H[k]? =some (.cj bs))(h2:bs.length+c.length<=big):dl R .oV (.ref k) [.bytes c] H= .ok .none (H.set k (.cj (bs++c))):=by
 show (match H[k]? with
   |some (.cj b)=>if b.length+c.length<=big then dz.ok SV.none (H.set k (.cj (b++c))) else .bad
   |_=> .bad)=_
 rw [h]
 exact if_pos h2
theorem sm (h:H[k]? =some (.cj bs)):Mine.bG Bi.bytes [.ref k] H= .ok (.bytes bs) H:=by
 show (match H[k]? with
   |some (.cj b)=>dz.ok (SV.bytes b) H
   |some (.list vs)=>(match bT vs with
    |some l=>if lG l then .ok (.bytes l) H else .bad
    |none=> .bad)
   |_=> .bad)=_
 rw [h]
end
theorem Gz {R:au}(h:gK P R e l H= .ok p H)(h2:p=true->gK P R e1 l H= .ok q H):gK P R (.and (.cons e (.cons e1 .nil))) l H= .ok (p&&q) H:=by
 cases p with
 |false=>exact cM (iU h)
 |true=>cases q with
  |false=>exact cM (dP h (iU (h2 rfl)))
  |true=>exact cM (dP h (dP (h2 rfl) fP))
theorem PO {R:au}(h:gK P R e l H= .ok p H)(h2:p=false->gK P R e1 l H= .ok q H):gK P R (.or (.cons e (.cons e1 .nil))) l H= .ok (p||q) H:=by
 cases p with
 |true=>exact fu (j0 h)
 |false=>cases q with
  |false=>exact fu (cZ h (cZ (h2 rfl) fb))
  |true=>exact fu (cZ h (j0 (h2 rfl)))
noncomputable def fr (l:cR)(k:Nat):Option SV:=(l[k]?).getD none
theorem nc {X:cQ}(g:(Nat->Option SV)->cR)(e:X= .next l H')(h:l=g (fr l)):X= .next (g (fr l)) H' :=e.trans (congrArg (cQ.next · H') h)
section
variable {H G:HP}{a b c:SO}
theorem nE:(H++a::G)[H.length]? =some a:=by rw [eG (bS _),Nat.sub_self];rfl
theorem sb:(H++a::b::G)[H.length+1]? =some b:=by rw [eG (gU _ 1),Nat.add_sub_cancel_left];rfl
theorem yb:(H++a::G).set H.length c=H++c::G:=by rw [List.set_append_right _ _ (bS _),Nat.sub_self];rfl
theorem JQ:(H++a::b::G).set (H.length+1) c=H++a::c::G:=by rw [List.set_append_right _ _ (gU _ 1),Nat.add_sub_cancel_left];rfl
end
theorem j9 {n:Int}(h0:0<=n)(h1:n<256):lG [n]=true:=by simp [lG,h0,h1]
theorem cJ {H:HP}{k:Nat}(h:H[k]? =some (.list vs))(h2:bT vs=some is)(h3:lG is=true):Mine.bG Bi.bytes [.ref k] H= .ok (.bytes is) H:=by
 show (match H[k]? with
   |some (.cj b)=>dz.ok (SV.bytes b) H
   |some (.list vs)=>(match bT vs with
    |some l=>if lG l then .ok (.bytes l) H else .bad
    |none=> .bad)
   |_=> .bad)=_
 rw [h]
 dsimp only
 rw [h2]
 dsimp only
 rw [h3];rfl
theorem wF {n:Int}(h0:0<=n)(h1:n<128)(d:Nat)(H:HP):run P (d+1) 3 [.int n] H= .ok (.bytes [n]) (H++ [.list [.int n]]):=
 aF rfl rfl (aY (eZ (cM (dP (an rfl rfl (pZ (bf h0))) (dP (an rfl rfl (gv (bf h1))) fP))) (aY (bK (bq (aa (bE (aa rfl af)) af) (cJ (dW ..) rfl (j9 h0 (Int.lt_trans h1 (by decide)))))))))
theorem vM (a b:Nat):Builtin.bitOr (a:Int) (b:Int)=((a|||b:Nat):Int):=by
 have ha:decide (0<=Builtin.bitNot (a:Int))=false:=aR (by unfold Builtin.bitNot;lia)
 have hb:decide (0<=Builtin.bitNot (b:Int))=false:=aR (by unfold Builtin.bitNot;lia)
 have ea:(Builtin.bitNot (Builtin.bitNot (a:Int))).toNat=a:=by unfold Builtin.bitNot;lia
 have eb:(Builtin.bitNot (Builtin.bitNot (b:Int))).toNat=b:=by unfold Builtin.bitNot;lia
 unfold Builtin.bitOr Builtin.bitAnd
 rw [ha,hb]
 dsimp only
 rw [ea,eb]
 unfold Builtin.bitNot
 lia
theorem B0 {n:Int}(h0:128<=n)(h1:n<16384):Builtin.bitOr (Builtin.bitAnd n 127) 128=n%128+128/\n/2^(7:Int).toNat=n/128:=by
 obtain ⟨k,rfl⟩:=Int.eq_ofNat_of_zero_le (show 0<=n by exact iJ ‹_› rfl)
 have e1:Builtin.bitAnd (k:Int) 127=((k&&&127:Nat):Int):=rfl
 have e2:k&&&127=k%128:=Nat.and_two_pow_sub_one_eq_mod k 7
 have e3:Builtin.bitOr ((k%128:Nat):Int) 128=((k%128|||128:Nat):Int):=vM _ 128
 have e4:k%128|||128=128+k%128:=by
  have:=Nat.two_pow_add_eq_or_of_lt (i:=7) (b:=k%128) (by exact Nat.mod_lt _ (lE rfl)) 1
  rw [Nat.or_comm]
  simpa using this.symm
 refine ⟨?_,rfl⟩
 rw [e1,e2,e3,e4]
 lia
theorem sW {n:Int}{most:Int}(h0:128<=n)(h1:n<16384)(hm:n<=most)(d:Nat)(H:HP):run P (d+1) 1 [.int n, .int most] H= .ok (.bytes [n%128+128,n/128]) (H++ [.cj [n%128+128,n/128]]):=by
 obtain ⟨g1,g2⟩:=B0 h0 h1
 refine aF rfl rfl (ae (cF (fu (cZ (an rfl rfl (gv (aR (by lia)))) (cZ (an rfl rfl (jI (aR (by exact iR ‹_›)))) fb))) aj) ?_)
 refine ae (bJ rfl) ?_
 refine ae (VQ (an rfl rfl (pZ (bf h0))) (ae (bZ (aw rfl (bO nE) (aa rfl af) (D5 nE (x:=Builtin.bitOr (Builtin.bitAnd n 127) 128) (by lia) (by lia) (by decide)))) (ae (tQ rfl rfl rfl) aj)) (U4 (an rfl rfl (pZ (aR ?_))))) ?_
 ·rw [g2];lia
 rw [g1,g2,yb]
 refine ae (bZ (aw rfl (bO nE) (aa rfl af) (D5 nE (x:=n/128) (by lia) (by lia) (by show 1<4096;decide)))) ?_
 rw [yb]
 exact aY (bK (bq (aa rfl af) (sm nE)))
theorem wd {n:Int}(h0:128<=n)(h1:n<16384)(d:Nat)(H:HP):run P (d+2) 3 [.int n] H= .ok (.bytes [n%128+128,n/128]) (H++ [.cj [n%128+128,n/128]]):=
 aF rfl rfl (ae (cF (cM (dP (an rfl rfl (pZ (bf (by exact iJ ‹_› rfl)))) (iU (an rfl rfl (gv (aR (by exact iR ‹_›))))))) aj) (aY (bK (cz (aa rfl (aa rfl af)) (sW h0 h1 (by exact iD ‹_› rfl) d H)))))
noncomputable def vb (n:Int):By:=if n<128 then [n] else [n%128+128,n/128]
theorem jz (n:Int):(vb n).length<=2:=by
 unfold vb;split<;>simp
theorem ya {n:Int}(h0:0<=n)(h1:n<16384)(d:Nat)(H:HP):∃G,run P (d+2) 3 [.int n] H= .ok (.bytes (vb n)) (H++G):=by
 unfold vb
 by_cases h:n<128
 ·rw [if_pos h];exact ⟨_,wF h0 h (d+1) H⟩
 ·rw [if_neg h];exact ⟨_,wd (Int.not_lt.mp h) h1 d H⟩
theorem um {n:Int}(h0:0<=n)(h1:n<128)(d:Nat)(H:HP):run P (d+1) 5 [.int n] H= .ok (.bytes [n]) (H++ [.list [.int n]]):=
 aF rfl rfl (aY (eZ (cM (dP (an rfl rfl (pZ (bf h0))) (dP (an rfl rfl (gv (bf h1))) fP))) (aY (bK (bq (aa (bE (aa rfl af)) af) (cJ (dW ..) rfl (j9 h0 (Int.lt_trans h1 (by decide)))))))))
section
variable {H G:HP}{a b:SO}{fs:List (Nat×SV)}{c i:Nat}{v:SV}
theorem sM (hf:P.field c i=true)(hl:fs.length<100):bD P (.ref H.length) i v (H++ .inst c fs::G)=some (H++ .inst c (kH i v fs)::G):=by
 unfold bD
 dsimp only
 rw [nE]
 dsimp only
 rw [if_pos ⟨hf,hl⟩,yb]
theorem ng:(H++a::G)++G' =H++a::(G++G'):=by rw [bX,List.cons_append]
theorem Qi:(H++a::b::G)++G' =H++a::b::(G++G'):=by rw [bX,List.cons_append,List.cons_append]
end
noncomputable def Sk (H0:HP)(bs:By)(H:HP):Prop:=∃G,H=H0++ .inst 10 [(45, .ref (H0.length+1))]:: .cj bs::G
theorem tJ (d:Nat)(l:cR)(H:HP):∃H',bj P (run P (d+1)) (.callC 10 .nil) l H= .ok (.ref H.length) H' /\Sk H [] H' :=by
 have hp:bD P (.ref H.length) 45 (.ref (H++ [SO.inst 10 []]).length) ((H++ [SO.inst 10 []])++ [SO.cj []])=some (H++SO.inst 10 [(45, .ref (H.length+1))]:: [SO.cj []]):=by
  rw [ng,aL,sM rfl (by decide)]
  rfl
 exact ⟨_,lw af rfl (bW rfl rfl (ae (bU rfl rfl hp) aj)), [],rfl⟩
section
variable {H0 H:HP}{bs:By}{d:Nat}
theorem AA {c:By}{H' :HP}(h:Sk H0 bs H)(hl:bs.length+c.length<=big){R:au}:∃OY,dl R .oV (.ref (H0.length+1)) [.bytes c] H= .ok .none OY/\Sk H0 (bs++c) OY:=by
 obtain ⟨G,rfl⟩:=h
 exact ⟨_,O9 sb hl,G,JQ⟩
theorem wv {x:Int}(h:Sk H0 bs H)(h0:0<=x)(h1:x<256)(hl:bs.length<big){R:au}:∃OY,dl R .pz (.ref (H0.length+1)) [.int x] H= .ok .none OY/\Sk H0 (bs++ [x]) OY:=by
 obtain ⟨G,rfl⟩:=h
 exact ⟨_,D5 sb h0 h1 hl,G,JQ⟩
theorem iu (h:Sk H0 bs H){R:au}{l:cR}{i:Nat}(hi:l[i]? =some (some (.ref H0.length))):bj P R (.attr (.loc i) 45) l H= .ok (.ref (H0.length+1)) H:=by
 obtain ⟨G,rfl⟩:=h
 exact aE (bc hi) nE rfl
theorem An (h:Sk H0 bs H)(m:Nat):d7 P (.ref (H0.length+1)) m H=vX (.cj bs) m:=by
 obtain ⟨G,rfl⟩:=h
 exact bO sb
theorem Sk.more (h:Sk H0 bs H)(G' :HP):Sk H0 bs (H++G'):=by
 obtain ⟨G,rfl⟩:=h
 exact ⟨_,Qi⟩
theorem gn {n:Int}(h:Sk H0 bs H)(h0:0<=n)(h1:n<16384)(hl:bs.length+2<=big):∃H',run P (d+3) 24 [.ref H0.length, .int n] H= .ok .none H' /\Sk H0 (bs++vb n) H' :=by
 by_cases q:n<128
 ·refine aZ (wv (R:=run P (d+2)) h h0 (Int.lt_trans q (by decide)) (Nat.lt_of_lt_of_le (Nat.lt_add_of_pos_right (by decide)) hl)) λH' e s=> ?_
  refine ⟨H',bW rfl rfl (ae (eZ (cM (dP (an rfl rfl (pZ (bf h0))) (dP (an rfl rfl (gv (bf q))) fP))) (ae (bZ (aw (iu h rfl) (An h 1) (aa rfl af) e)) aj)) aj), ?_⟩
  unfold vb
  rw [if_pos q];exact s
 ·obtain ⟨G,e1⟩:=ya h0 h1 d H
  refine aZ (AA (R:=run P (d+2)) (H' :=H) (h.more G) (cy (Nat.add_le_add_left (jz n) _) hl)) λH' e s=> ?_
  exact ⟨H',bW rfl rfl (ae (cF (cM (dP (an rfl rfl (pZ (bf h0))) (iU (an rfl rfl (gv (aR q)))))) (ae (bZ (aw (iu h rfl) (An h 23) (aa (cz (aa rfl af) e1) af) e)) aj)) aj),s⟩
theorem qB:Mine.bG Bi.len [.bytes b] H= .ok (.int b.length) H:=rfl
theorem hW {b:By}(h:Sk H0 bs H)(hb:b.length<128)(hl:bs.length+200<=big):∃H',run P (d+2) 27 [.ref H0.length, .bytes b] H= .ok .none H' /\Sk H0 (bs++(b.length:Int)::b) H' :=by
 have e1:=um (n:=b.length) (fw _) (by exact iF ‹_› rfl) d H
 obtain ⟨H1,e,s⟩:=AA (R:=run P (d+1)) (H' :=H) (c:= [(b.length:Int)]) (h.more _) (by show bs.length+1<=big;lia)
 obtain ⟨H2,e',s'⟩:=AA (R:=run P (d+1)) (H' :=H1) (c:=b) s (by rw [aL];simp;lia)
 refine ⟨H2,bW rfl rfl (ae (bZ (aw (iu h rfl) (An h 23) (aa (cz (aa (bq (aa rfl af) rfl) af) e1) af) e)) (ae (bZ (aw (iu s rfl) (An s 23) (aa rfl af) e')) aj)), ?_⟩
 rw [bX] at s';exact s'
theorem Hm {n:Int}(h:Sk H0 bs H)(h0:0<=n)(h1:n<256)(hl:bs.length<big):∃H',run P (d+1) 28 [.ref H0.length, .int n] H= .ok .none H' /\Sk H0 (bs++ [n]) H' :=by
 refine aZ (wv (R:=run P d) h h0 h1 hl) λH' e s=> ?_
 exact ⟨H',bW rfl rfl (ae (cF (fu (cZ (an rfl rfl (gv (aR (Int.not_lt.mpr h0)))) (cZ (an rfl rfl (jI (aR (by lia)))) fb))) aj) (ae (bZ (aw (iu h rfl) (An h 1) (aa rfl af) e)) aj)),s⟩
theorem rS (h:Sk H0 bs H)(hl:bs.length<big):∃H',run P (d+1) 29 [.ref H0.length, .bool b] H= .ok .none H' /\Sk H0 (bs++ [if b then 1 else 0]) H' :=by
 cases b with
 |true=>
  refine aZ (wv (R:=run P d) h (x:=1) (by decide) (by decide) hl) λH' e s=> ?_
  exact ⟨H',bW rfl rfl (ae (eZ rfl (ae (bZ (aw (iu h rfl) (An h 1) (aa rfl af) e)) aj)) aj),s⟩
 |false=>
  refine aZ (wv (R:=run P d) h (x:=0) (by decide) (by decide) hl) λH' e s=> ?_
  exact ⟨H',bW rfl rfl (ae (cF rfl (ae (bZ (aw (iu h rfl) (An h 1) (aa rfl af) e)) aj)) aj),s⟩
theorem oJ (h:Sk H0 bs H):run P (d+1) 31 [.ref H0.length] H= .ok (.bytes bs) H:=by
 have e1:=iu (R:=run P d) (l:= [some (.ref H0.length)]) (i:=0) h rfl
 obtain ⟨G,rfl⟩:=h
 exact aF rfl rfl (aY (bK (bq (aa e1 af) (sm sb))))
end
section
variable {R:au}{l l1 l' :cR}{H H1 H2 H3 H' :HP}{b:cA}{e e1 e2:SE}{v x y z:SV}{o:cQ}{i k m n:Nat}{is:List Nat}{body:cR->HP->cQ}
theorem f_ (h:bj P R e l H= .ok v H1)(h2:forLoop is (λl H=>aK P R b l H) v (fa v H1+1) 0 l H1=o):gJ P R (.je is e b) l H=o:=by
 show (bj P R e l H).then l _=_
 rw [h];exact h2
theorem fq (h:cu v k H=some (some x))(h2:kC l is x=some l1)(h3:body l1 H= .next l' H')(h4:forLoop is body v n (k+1) l' H' =o):forLoop is body v (n+1) k l H=o:=by
 rw [gu]
 rw [h]
 dsimp only
 rw [h2]
 dsimp only
 rw [h3];exact h4
theorem E8 (h:cu v k H=some (some x))(h2:kC l is x=some l1)(h3:body l1 H= .cont l' H')(h4:forLoop is body v n (k+1) l' H' =o):forLoop is body v (n+1) k l H=o:=by
 rw [gu]
 rw [h]
 dsimp only
 rw [h2]
 dsimp only
 rw [h3];exact h4
theorem OT (h:cu v k H=some (some x))(h2:kC l is x=some l1)(h3:body l1 H= .ret y H'):forLoop is body v (n+1) k l H= .ret y H' :=by
 rw [gu]
 rw [h]
 dsimp only
 rw [h2]
 dsimp only
 rw [h3]
theorem ju (h:cu v k H=some none):forLoop is body v (n+1) k l H= .next l H:=by
 rw [gu]
 rw [h]
theorem Hf (h:bj P R e l H= .ok x H1)(h2:bj P R e1 l H1= .ok y H2)(h3:bj P R e2 l H2= .ok z H3){o:dz SV}(h4:f6 x y z H3=o):bj P R (.slice e e1 e2) l H=o:=by
 show (bj P R e l H).bind _=_
 rw [h]
 show (bj P R e1 l H1).bind _=_
 rw [h2]
 show (bj P R e2 l H2).bind _=_
 rw [h3];exact h4
theorem fU (h:bj P R e l H= .ok x H1)(h2:bj P R e1 l H1= .ok y H2)(h3:bV op x y H2=some q):bj P R (.cmp op e e1) l H= .ok (.bool q) H2:=by
 show (bj P R e l H).bind _=_
 rw [h]
 show (bj P R e1 l H1).bind _=_
 rw [h2]
 show (fj (bV op x y H2) H2).bind _=_
 rw [h3];rfl
theorem AH {a c:Int}(h:bj P R e l H= .ok x H1)(h2:eC x i H1= .ok (.int a) H1)(h3:bj P R e1 l H1= .ok (.int c) H2)(h4:cE op (.int a) (.int c) H2= .ok v H2)(h5:bD P x i v H2=some H3):gJ P R (.tF e i op e1) l H= .next l H3:=by
 show (bj P R e l H).then l _=_
 rw [h]
 show (eC x i H1).then l _=_
 rw [h2]
 show (bj P R e1 l H1).then l _=_
 rw [h3]
 show (cE op (.int a) (.int c) H2).then l _=_
 rw [h4]
 show (match bD P x i v H2 with|some H=>cQ.next l H|none=> .bad)=_
 rw [h5]
theorem qE {c:Nat}(h:bj P R e l H= .ok .text H1):gJ P R (.raise c e) l H= .jw c H1:=by
 show (bj P R e l H).then l _=_
 rw [h];rfl
end
theorem Bf (k:Nat)(hk:(k:Int)<10):cu (.range 0 10) k H=some (some (.int (0+(k:Int)))):=congrArg some (if_pos (by lia))
theorem i4 {x:Int}:dH (.bytes (pre++x::aH)) (.int pre.length) H= .ok (.int x) H:=by
 show (if cP (pre.length:Int) (pre++x::aH).length then dz.ok (SV.int ((pre++x::aH).getD (cw (pre.length:Int) (pre++x::aH).length) 0)) H else .bad)=_
 have h1:cP (pre.length:Int) (pre++x::aH).length=true:=by
  unfold cP
  rw [aL,dq,bf (by lia),bf (by lia)];rfl
 have h2:cw (pre.length:Int) (pre++x::aH).length=pre.length:=by
  unfold cw
  rw [if_pos (fw _)];rfl
 rw [if_pos h1,h2,List.getD_eq_getElem?_getD,eG (bS _),Nat.sub_self];rfl
theorem BW {x:Int}:bV .lt (.int pre.length) (.int (pre++x::aH).length) H=some true:=gv (bf (by rw [aL,dq];lia))
theorem FW {x:Int}:bV .ge (.int pre.length) (.int (pre++x::aH).length) H=some false:=pZ (aR (by rw [aL,dq];lia))
theorem mS {x:Int}:pre++x::aH=(pre++ [x])++aH:=by rw [bX];rfl
theorem mV {x:Int}:((pre.length:Int)+1)=((pre++ [x]).length:Int):=by rw [aL];rfl
theorem zN {n:Int}(h0:128<=n)(h1:n<16384):Builtin.bitOr 0 (Builtin.bitAnd (n%128+128) 127*2^(0:Int).toNat)=n%128/\Builtin.bitOr (n%128) (Builtin.bitAnd (n/128) 127*2^(7:Int).toNat)=n/\(Builtin.bitAnd (n%128+128) 127).natAbs<4294967296/\(Builtin.bitAnd (n/128) 127).natAbs<4294967296:=by
 obtain ⟨k,rfl⟩:=Int.eq_ofNat_of_zero_le (show 0<=n by exact iJ ‹_› rfl)
 have a1:((k:Int)%128+128)=((k%128+128:Nat):Int):=by lia
 have a2:((k:Int)/128)=((k/128:Nat):Int):=by lia
 have a3:((k:Int)%128)=((k%128:Nat):Int):=by lia
 have e1:Builtin.bitAnd ((k%128+128:Nat):Int) 127=(((k%128+128)&&&127:Nat):Int):=rfl
 have e2:(k%128+128)&&&127=k%128:=(Nat.and_two_pow_sub_one_eq_mod _ 7).trans (by lia)
 have e3:Builtin.bitAnd ((k/128:Nat):Int) 127=((k/128&&&127:Nat):Int):=rfl
 have e4:k/128&&&127=k/128:=(Nat.and_two_pow_sub_one_eq_mod _ 7).trans (by lia)
 have e5:k%128|||k/128*128=k:=by
  have:=Nat.two_pow_add_eq_or_of_lt (i:=7) (b:=k%128) (by exact Nat.mod_lt _ (lE rfl)) (k/128)
  rw [Nat.or_comm]
  have z:2^7*(k/128)=k/128*128:=Nat.mul_comm _ _
  rw [<-z,<-this]
  lia
 rw [a1,a2,a3,e1,e2,e3,e4]
 refine ⟨?_, ?_,by lia,by lia⟩
 ·rw [show ((k%128:Nat):Int)*2^(0:Int).toNat=((k%128:Nat):Int) from Int.mul_one _]
  exact (vM 0 _).trans (by rw [Nat.zero_or])
 ·rw [show ((k/128:Nat):Int)*2^(7:Int).toNat=((k/128*128:Nat):Int) from rfl]
  exact (vM _ _).trans (by rw [e5])
theorem uv {n:Int}(h0:128<=n)(h1:n<16384)(d:Nat)(H:HP):
  run P (d+1) 2 [.bytes (pre++(n%128+128)::n/128::aH), .int pre.length, .int 10, .int 18446744073709551615] H= .ok (.tuple [.int n, .int (pre.length+1+1)]) H:=by
 refine RJ (zN h0 h1) λg1 g2 g3 g4=> ?_
 have hq:(pre++(n%128+128)::n/128::aH)=(pre++ [n%128+128])++n/128::aH:=mS
 refine aF rfl rfl (ae (cF (an rfl rfl (gv (aR (Int.not_lt.mpr (fw _))))) aj) (ae (bJ rfl) (ae (bJ rfl) (aY (f_ (v:= .range 0 10) rfl ?_)))))
 have s1:cE .shl (.int (Builtin.bitAnd (n%128+128) 127)) (.int 0) H= .ok (.int (Builtin.bitAnd (n%128+128) 127*2^(0:Int).toNat)) H:=if_pos ⟨by decide,by decide,g3⟩
 have s2:cE .shl (.int (Builtin.bitAnd (n/128) 127)) (.int 7) H= .ok (.int (Builtin.bitAnd (n/128) 127*2^(7:Int).toNat)) H:=if_pos ⟨by decide,by decide,g4⟩
 refine fq (l' := [some (.bytes (pre++(n%128+128)::n/128::aH)),some (.int (pre.length+1)),some (.int 10),some (.int 18446744073709551615),some (.int (n%128)),some (.int 7),some (.int 0),some (.int (n%128+128))])
  (Bf 0 (by decide)) rfl (ae (cF (an rfl rfl FW) aj) (ae (bJ (aN rfl rfl i4)) (ae (tQ (a:=pre.length) (c:=1) rfl rfl rfl)
  (ae (tQ (a:=0) (v:= .int (n%128)) rfl (aJ (aJ rfl rfl rfl) rfl s1) (congrArg (λz=>dz.ok (SV.int z) H) g1)) (ae (cF (an rfl rfl (gv (aR (by lia)))) aj) (ae (tQ (a:=0) (c:=7) rfl rfl rfl) aj)))))) ?_
 refine OT (Bf 1 (by decide)) rfl ?_
 refine ae (cF (an (x:= .int (pre.length+1)) rfl rfl (pZ (aR (by rw [aL,dq,dq];lia)))) aj) (ae (bJ (v:= .int (n/128)) (aN (x:= .bytes (pre++(n%128+128)::n/128::aH)) (y:= .int (pre.length+1)) rfl rfl ?_)) (ae (tQ (a:=pre.length+1) (c:=1) rfl rfl rfl)
  (ae (tQ (a:=n%128) (v:= .int n) rfl (aJ (aJ rfl rfl rfl) rfl s2) (congrArg (λz=>dz.ok (SV.int z) H) g2)) (aY (eZ (an rfl rfl (gv (bf (by lia)))) (ae (cF (an rfl rfl (jI (aR (by lia)))) aj) (aY (bK (cX (aa rfl (aa rfl af)))))))))))
 rw [hq,mV]
 exact i4
theorem K5 {n:Nat}:bV .ge (.int (n:Int)) (.int 0) H=some true:=pZ (bf (fw _))
theorem uu {n:Int}(h0:128<=n)(h1:n<16384)(d:Nat)(H:HP):
  run P (d+2) 4 [.bytes (pre++(n%128+128)::n/128::aH), .int pre.length] H= .ok (.tuple [.int n, .int (pre.length+1+1)]) H:=
 aF rfl rfl (ae (cF (cM (dP (an rfl rfl K5) (dP (an rfl rfl BW) (iU (an (aN rfl rfl i4) rfl (gv (aR (by lia)))))))) aj) (aY (bK (cz (aa rfl (aa rfl (aa rfl (aa rfl af)))) (uv h0 h1 d H)))))
theorem rA {n:Int}(h0:0<=n)(h1:n<128)(d:Nat)(H:HP):
  run P (d+1) 6 [.bytes (pre++n::aH), .int pre.length] H= .ok (.tuple [.int n, .int (pre.length+1)]) H:=
 aF rfl rfl (aY (eZ (cM (dP (an rfl rfl K5) (dP (an rfl rfl BW) (dP (an (aN rfl rfl i4) rfl (gv (bf h1))) fP)))) (aY (bK (cX (aa (aN rfl rfl i4) (aa rfl af)))))))
noncomputable def Cu (H0:HP)(pre aH:By)(H:HP):Prop:=∃G,H=H0++ .inst 9 [(15, .bytes (pre++aH)),(4, .int pre.length)]::G
section
variable {H0 H:HP}{pre aH:By}{d:Nat}
theorem hJ (h:Cu H0 pre aH H){R:au}{i:Nat}(hi:l[i]? =some (some (.ref H0.length))):bj P R (.attr (.loc i) 15) l H= .ok (.bytes (pre++aH)) H:=by
 obtain ⟨G,rfl⟩:=h
 exact aE (bc hi) nE rfl
theorem nR (h:Cu H0 pre aH H){R:au}{i:Nat}(hi:l[i]? =some (some (.ref H0.length))):bj P R (.attr (.loc i) 4) l H= .ok (.int pre.length) H:=by
 obtain ⟨G,rfl⟩:=h
 exact aE (bc hi) nE rfl
theorem qs {n:Int}(h:Cu H0 pre aH H)(e:pre++aH=p++r)(hn:n=p.length):∃H',bD P (.ref H0.length) 4 (.int n) H=some H' /\Cu H0 p r H' :=by
 obtain ⟨G,rfl⟩:=h
 refine ⟨_,sM rfl (show 2<100 by decide),G, ?_⟩
 rw [e,hn];rfl
theorem vZ (R:au)(l:cR)(i:Nat)(hi:l[i]? =some (some (.bytes b)))(H:HP):∃H',bj P (run P (d+1)) (.callC 9 (.cons (.loc i) .nil)) l H= .ok (.ref H.length) H' /\Cu H [] b H' :=by
 have h1:bD P (.ref H.length) 15 (.bytes b) (H++ [SO.inst 9 []])=some (H++SO.inst 9 [(15, .bytes b)]:: []):=sM rfl (by decide)
 have h2:bD P (.ref H.length) 4 (.int 0) (H++SO.inst 9 [(15, .bytes b)]:: [])=some (H++SO.inst 9 [(15, .bytes b),(4, .int 0)]:: []):=sM rfl (show 1<100 by decide)
 exact ⟨_,lw (aa (bc hi) af) rfl (bW rfl rfl (ae (cF (fu (cZ (an rfl rfl (gv rfl)) (cZ (an rfl (bq (aa rfl af) rfl) (jI (aR (Int.not_lt.mpr (fw _))))) fb))) aj) (ae (bU rfl rfl h1) (ae (bU rfl rfl h2) aj)))), [],rfl⟩
theorem ji {n:Int}(h:Cu H0 pre (vb n++aH) H)(h0:0<=n)(h1:n<16384):∃H',run P (d+3) 15 [.ref H0.length] H= .ok (.int n) H' /\Cu H0 (pre++vb n) aH H' :=by
 have e0:=nR (R:=run P (d+2)) (l:= [some (.ref H0.length),none,none]) (i:=0) h rfl
 have e1:=hJ (R:=run P (d+2)) (l:= [some (.ref H0.length),some (.int pre.length),none]) (i:=0) h rfl
 by_cases q:n<128
 ·have hv:vb n= [n]:=if_pos q
  rw [hv] at h e1⊢
  refine aZ (qs (n:=(pre.length:Int)+1) h (p:=pre++ [n]) (r:=aH) (bX ..).symm mV) λH' e2 s=> ?_
  have e3:=hJ (R:=run P (d+2)) (l:= [some (.ref H0.length),some (.int pre.length),none]) (i:=0) s rfl
  rw [bX] at e3
  exact ⟨H',aF rfl rfl (ae (bJ (nR h rfl)) (aY (eZ (cM (dP (an rfl (bq (aa e1 af) rfl) BW) (dP (an (aN e1 rfl i4) rfl (gv (bf q))) fP))) (ae (bU (aJ rfl rfl rfl) rfl e2) (aY (bK (aN e3 rfl i4))))))),s⟩
 ·have hv:vb n= [n%128+128,n/128]:=if_neg q
  rw [hv] at h e1⊢
  have q' :=Int.not_lt.mp q
  obtain ⟨H',e2,s⟩:=qs (n:=(pre.length:Int)+1+1) h (p:=pre++ [n%128+128,n/128]) (r:=aH) (bX ..).symm (by rw [aL];rfl)
  exact ⟨H',aF rfl rfl (ae (bJ (nR h rfl)) (ae (cF (cM (dP (an rfl (bq (aa e1 af) rfl) BW) (iU (an (aN e1 rfl i4) rfl (gv (aR (by lia))))))) aj) (ae (lu (cz (aa e1 (aa rfl af)) (uu q' h1 d H)) rfl) (ae (bU rfl rfl e2) (aY (bK rfl)))))),s⟩
theorem wc (h:Cu H0 pre ((if b then 1 else 0)::aH) H):∃H',run P (d+1) 20 [.ref H0.length] H= .ok (.bool b) H' /\Cu H0 (pre++ [if b then 1 else 0]) aH H' :=by
 have e0:=nR (R:=run P d) (l:= [some (.ref H0.length),none]) (i:=0) h rfl
 have e1:=hJ (R:=run P d) (l:= [some (.ref H0.length),none]) (i:=0) h rfl
 refine aZ (qs (n:=(pre.length:Int)+1) h (p:=pre++ [if b then 1 else 0]) (r:=aH) mS mV) λH' e2 s=> ?_
 have e4:eC (.ref H0.length) 4 H= .ok (.int pre.length) H:=by
  obtain ⟨G,rfl⟩:=h
  unfold eC
  dsimp only
  rw [nE];rfl
 refine ⟨H',aF rfl rfl (ae (cF (an e0 (bq (aa e1 af) rfl) FW) aj) (ae (bJ (aN e1 e0 i4)) (ae (cF (an rfl rfl (jI (aR (by cases b<;>decide)))) aj) (ae (AH rfl e4 rfl rfl e2) (aY (bK (fU rfl rfl ?_))))))),s⟩
 cases b<;>rfl
theorem Ie {pre b aH:By}:lJ (pre++(b++aH)) (.int pre.length) (.int (pre.length+b.length))=some b:=by
 have h0:(0:Int)<=pre.length/\(0:Int)<=(pre.length:Int)+b.length:=⟨fw _,by lia⟩
 unfold lJ
 dsimp only
 rw [if_pos h0]
 have h1:((pre.length:Int)+b.length).toNat=pre.length+b.length:=by lia
 rw [h1,List.take_length_add_append,Int.toNat_natCast,List.drop_left',List.take_left']
 ·rfl
 ·rfl
theorem sw {b:By}{pre aH:By}(hb:b.length<128)(d:Nat)(H:HP):
  run P (d+2) 12 [.bytes (pre++(b.length:Int)::(b++aH)), .int pre.length] H= .ok (.tuple [.bytes b, .int (pre.length+1+b.length)]) H:=by
 have hc:=Ie (pre:=pre++ [(b.length:Int)]) (b:=b) (aH:=aH)
 rw [<-mS,<-mV] at hc
 have e1:f6 (.bytes (pre++(b.length:Int)::(b++aH))) (.int (pre.length+1)) (.int (pre.length+1+b.length)) H= .ok (.bytes b) H:=by
  unfold f6
  dsimp only
  rw [hc]
 refine aF rfl rfl (ae (lu (cz (aa rfl (aa rfl af)) (rA (fw _) (by exact iF ‹_› rfl) d H)) rfl) (ae (cF (an (x:= .int (pre.length+1+b.length)) (aJ rfl rfl rfl) (bq (aa rfl af) rfl) (jI (aR ?_))) aj) (aY (bK (cX (aa (bq (aa (Hf rfl rfl (aJ rfl rfl rfl) e1) af) rfl) (aa (aJ rfl rfl rfl) af)))))))
 rw [aL,dq,aL]
 lia
theorem hY (h:Cu H0 pre ((b.length:Int)::(b++aH)) H)(hb:b.length<128):∃H',run P (d+3) 18 [.ref H0.length] H= .ok (.bytes b) H' /\Cu H0 (pre++(b.length:Int)::b) aH H' :=by
 have e0:=nR (R:=run P (d+2)) (l:= [some (.ref H0.length),none,none]) (i:=0) h rfl
 have e1:=hJ (R:=run P (d+2)) (l:= [some (.ref H0.length),none,none]) (i:=0) h rfl
 obtain ⟨H',e2,s⟩:=qs (n:=(pre.length:Int)+1+b.length) h (p:=pre++(b.length:Int)::b) (r:=aH) (by simp) (by rw [aL,dq];lia)
 exact ⟨H',aF rfl rfl (ae (lu (cz (aa e1 (aa e0 af)) (sw hb d H)) rfl) (ae (bU rfl rfl e2) (aY (bK rfl)))),s⟩
theorem pB (h:Cu H0 pre [] H):run P (d+1) 22 [.ref H0.length] H= .ok .none H:=by
 have e0:=nR (R:=run P d) (l:= [some (.ref H0.length)]) (i:=0) h rfl
 have e1:=hJ (R:=run P d) (l:= [some (.ref H0.length)]) (i:=0) h rfl
 exact bW rfl rfl (ae (cF (an e0 (bq (aa e1 af) rfl) (gv (aR (by rw [ch];lia)))) aj) aj)
end
noncomputable def Gr (H H' :HP):Prop:=∃G,H' =H++G
theorem Gr.refl:Gr H H:=⟨[],(ch _).symm⟩
theorem Gr.trans {H H1 H2:HP}(a:Gr H H1)(b:Gr H1 H2):Gr H H2:=by
 obtain ⟨G,rfl⟩:=a
 obtain ⟨G',rfl⟩:=b
 exact ⟨G++G',bX ..⟩
theorem Gr.le (a:Gr H H'):H.length<=H'.length:=by
 obtain ⟨G,rfl⟩:=a
 rw [aL]
 exact gU _ _
theorem Gr.at {H H' :HP}(a:Gr H H'){k:Nat}(h:H[k]? =some o):H'[k]? =some o:=by
 obtain ⟨G,rfl⟩:=a
 rw [iM (gw h).1];exact h
noncomputable def ob (o:Option By):SV:=match o with
 |none=> .none
 |some b=> .bytes b
noncomputable def mb (o:Option By):By:=match o with
 |none=> [0]
 |some b=>1::(b.length:Int)::b
section
variable {R:au}{l l' :cR}{H H1 H' :HP}{b:cA}{c:Nat}{h:HS}{v:SV}{o:cQ}
theorem Fx (e:aK P R b l H= .next l' H'):gJ P R (.lH b c h) l H= .next l' H' :=by
 show (match aK P R b l H with
  | .exc c' l H=>if c' =c then KX h l H else .bad
  | .jw _ _=> .bad
  |o=>o)=_
 rw [e]
theorem PV (e:aK P R b l H= .ret v H'):gJ P R (.lH b c h) l H= .ret v H' :=by
 show (match aK P R b l H with
  | .exc c' l H=>if c' =c then KX h l H else .bad
  | .jw _ _=> .bad
  |o=>o)=_
 rw [e]
theorem uN (e:aK P R b l H= .exc c l' H')(e2:KX h l' H' =o):gJ P R (.lH b c h) l H=o:=by
 show (match aK P R b l H with
  | .exc c' l H=>if c' =c then KX h l H else .bad
  | .jw _ _=> .bad
  |o=>o)=_
 rw [e]
 exact (if_pos rfl).trans e2
theorem A4 {m:Nat}(h:bj P R e l H= .ok v H1){k:MK}(h2:d7 P v m H1=some k)(h3:dM P R es l H1= .ok vs H2)(h4:dl R k v vs H2= .ok (.bool q) H'):gK P R (.eu e m es) l H= .ok q H' :=by
 show ((bj P R e l H).bind λv H=>(fj (d7 P v m H) H).bind λk H=>(dM P R es l H).bind λvs H=>dl R k v vs H).bind _=_
 have z:((bj P R e l H).bind λv H=>(fj (d7 P v m H) H).bind λk H=>(dM P R es l H).bind λvs H=>dl R k v vs H)= .ok (.bool q) H' :=aw h h2 h3 h4
 rw [z];rfl
theorem M2 {i:Int}(h:bj P R e l H= .ok (.int i) H1)(h0:0<=i)(h1:i<100000):bj P R (.xw e) l H= .ok .text H1:=by
 show (bj P R e l H).bind _=_
 rw [h]
 show (if dK [.int i] then dz.ok SV.text H1 else .bad)=_
 have:dK [.int i]=true:=by
  show (decide (0<=i)&&decide (i<100000)&&true)=true
  rw [bf h0,bf h1];rfl
 rw [if_pos this]
theorem LX {i:Int}(h:bj P R e l H= .ok (.int i) H1)(h0:0<=i)(h1:i<100000):bj P R (.zl e) l H= .ok .text H1:=by
 show (bj P R e l H).bind _=_
 rw [h]
 show (if dK [.int i] then dz.ok SV.text H1 else .bad)=_
 have:dK [.int i]=true:=by
  show (decide (0<=i)&&decide (i<100000)&&true)=true
  rw [bf h0,bf h1];rfl
 rw [if_pos this]
theorem yQ {k:Nat}(h:bj P R e l H= .exc k H'):gJ P R (.expr e) l H= .exc k l H' :=by
 show (bj P R e l H).then l _=_
 rw [h];rfl
theorem QF {k:Nat}(h:bj P R e l H= .exc k H'):gJ P R (.ret e) l H= .exc k l H' :=by
 show (bj P R e l H).then l _=_
 rw [h];rfl
end
section
variable {H0 H:HP}{bs:By}{d:Nat}
theorem Sk.gr (h:Sk H0 bs H):Gr H0 H:=by obtain ⟨G,rfl⟩:=h;exact ⟨_,rfl⟩
theorem fC (h:Sk H0 bs H)(m:Nat):d7 P (.ref H0.length) m H=vX (.inst 10 [(45, .ref (H0.length+1))]) m:=by
 obtain ⟨G,rfl⟩:=h
 exact bO nE
theorem tT (h:Sk H0 bs H)(ho:∀b,o=some b->b.length<128)(hl:bs.length+300<=big):∃H',run P (d+3) 60 [.ref H0.length,ob o] H= .ok .none H' /\Sk H0 (bs++mb o) H' :=by
 cases o with
 |none=>
  refine aZ (rS (d:=d+1) (b:=false) h (by lia)) λH1 e1 s1=> ?_
  exact ⟨H1,bW rfl rfl (ae (bZ (aw rfl (fC h 26) (aa (fU rfl rfl rfl) af) e1)) (ae (cF (an rfl rfl rfl) aj) aj)),s1⟩
 |some b=>
  have hb:=ho b rfl
  refine aZ (rS (d:=d+1) (b:=true) h (by lia)) λH1 e1 s1=> ?_
  obtain ⟨H2,e2,s2⟩:=hW (d:=d) s1 hb (by rw [aL];simp;lia)
  refine ⟨H2,bW rfl rfl (ae (bZ (aw rfl (fC h 26) (aa (fU rfl rfl rfl) af) e1)) (ae (eZ (an rfl rfl rfl) (ae (bZ (aw rfl (fC s1 37) (aa rfl af) e2)) aj)) aj)), ?_⟩
  rw [bX] at s2;exact s2
end
theorem jS {o:Option By}{code:Int}(h0:0<=code)(h1:code<256)(ho:∀b,o=some b->b.length<128)(d:Nat)(H:HP):∃H',run P (d+4) 63 [.int code,ob o] H= .ok (.bytes (code::mb o)) H' /\Gr H H' :=by
 refine aZ (tJ (d+2) [some (.int code),some (ob o),none] H) λH1 e1 s1=> ?_
 refine aZ (Hm (d:=d+2) s1 h0 h1 (by decide)) λH2 e2 s2=> ?_
 obtain ⟨H3,e3,s3⟩:=tT (d:=d) s2 ho (by show 1+300<=4096;exact lE rfl)
 refine ⟨H3,aF rfl rfl (ae (bJ e1) (ae (bZ (aw rfl (fC s1 42) (aa rfl af) e2)) (ae (bZ (cz (aa rfl (aa rfl af)) e3)) (aY (bK (aw rfl (fC s3 19) af (oJ (d:=d+2) s3))))))),s3.gr⟩
theorem rB {aW:Int}{op:Bool}(h0:0<=aW)(h1:aW<16384)(hr:dh.length<128)(d:Nat)(H:HP):
  ∃H',run P (d+4) 67 [.int aW, .bool op, .bytes dh] H= .ok (.bytes (vb aW++(if op then 1 else 0)::(dh.length:Int)::dh)) H' /\Gr H H' :=by
 refine aZ (tJ (d+2) [some (.int aW),some (.bool op),some (.bytes dh),none] H) λH1 e1 s1=> ?_
 refine aZ (gn (d:=d) s1 h0 h1 (by decide)) λH2 e2 s2=> ?_
 have hv:=jz aW
 obtain ⟨H3,e3,s3⟩:=rS (d:=d+2) (b:=op) s2 (by show (vb aW).length<4096;exact lC ‹_› rfl)
 obtain ⟨H4,e4,s4⟩:=hW (d:=d+1) (b:=dh) s3 hr (by rw [aL];show (vb aW).length+1+200<=4096;lia)
 have e5:=oJ (d:=d+2) s4
 rw [show ([]++vb aW++ [if op then 1 else 0]++(dh.length:Int)::dh)=(vb aW++(if op then 1 else 0)::(dh.length:Int)::dh) from (bX ..).trans rfl] at e5
 exact ⟨H4,aF rfl rfl (ae (bJ e1) (ae (bZ (aw rfl (fC s1 64) (aa rfl af) e2)) (ae (bZ (aw rfl (fC s2 26) (aa rfl af) e3)) (ae (bZ (aw rfl (fC s3 37) (aa rfl af) e4)) (aY (bK (aw rfl (fC s4 19) af e5))))))),s4.gr⟩
section
variable {H0 H:HP}{pre aH:By}{d:Nat}
theorem Cu.gr (h:Cu H0 pre aH H):Gr H0 H:=by obtain ⟨G,rfl⟩:=h;exact ⟨_,rfl⟩
theorem eX (h:Cu H0 pre aH H)(m:Nat):d7 P (.ref H0.length) m H=vX (.inst 9 [(15, .bytes (pre++aH)),(4, .int pre.length)]) m:=by
 obtain ⟨G,rfl⟩:=h
 exact bO nE
end
theorem lr {aW:Int}{op:Bool}(h0:0<=aW)(h1:aW<16384)(hr:dh.length<128)(d:Nat)(H:HP):
  ∃H',run P (d+4) 68 [.bytes (vb aW++(if op then 1 else 0)::(dh.length:Int)::dh)] H= .ok (.tuple [.int aW, .bool op, .bytes dh]) H' /\Gr H H' :=by
 refine aZ (vZ (d:=d+2) (b:=vb aW++(if op then 1 else 0)::(dh.length:Int)::dh) (run P (d+3)) [some (.bytes (vb aW++(if op then 1 else 0)::(dh.length:Int)::dh)),none,none,none,none] 0 rfl H) λH1 e1 s1=> ?_
 refine aZ (ji (d:=d) s1 h0 h1) λH2 e2 s2=> ?_
 refine aZ (wc (d:=d+2) s2) λH3 e3 s3=> ?_
 rw [show (dh.length:Int)::dh=(dh.length:Int)::(dh++ []) by rw [ch]] at s3
 refine aZ (hY (d:=d) s3 hr) λH4 e4 s4=> ?_
 exact ⟨H4,aF rfl rfl (ae (bJ e1) (ae (bJ (aw rfl (eX s1 64) af e2)) (ae (bJ (aw rfl (eX s2 26) af e3)) (ae (bJ (aw rfl (eX s3 37) af e4)) (ae (bZ (aw rfl (eX s4 19) af (pB (d:=d+2) s4))) (aY (bK (cX (aa rfl (aa rfl (aa rfl af))))))))))),s4.gr⟩
structure iY where
 kind:Int
 d9:Int
 number:Int
 key:By
 value:By
 expect:Option By
noncomputable def iY.so (c:iY):SO:= .inst 14 [(32, .int c.kind),(9, .int c.d9),(41, .int c.number),(31, .bytes c.key),(63, .bytes c.value),(22,ob c.expect)]
noncomputable def iY.enc (c:iY):By:=vb c.kind++(vb c.d9++(vb c.number++((c.key.length:Int)::c.key++((c.value.length:Int)::c.value++mb c.expect))))
structure iY.Ok (c:iY):Prop where
 k0:0<=c.kind
 k1:c.kind<128
 c0:0<=c.d9
 c1:c.d9<16384
 n0:0<=c.number
 n1:c.number<16384
 key:c.key.length<128
 val:c.value.length<128
 exp:∀b,c.expect=some b->b.length<128
theorem Oy {c:Nat}:(H++ [SO.inst c []])=H++SO.inst c []:: []:=rfl
theorem jb {c i:Nat}{fs fs' :List (Nat×SV)}(hf:P.field c i=true)(hl:fs.length<100)(e:kH i v fs=fs'):bD P (.ref H.length) i v (H++ [.inst c fs])=some (H++ [.inst c fs']):=e▸sM hf hl
theorem AO (c:iY)(d:Nat)(H:HP):run P (d+1) 57 [.ref H.length, .int c.kind, .int c.d9, .int c.number, .bytes c.key, .bytes c.value,ob c.expect] (H++ [.inst 14 []])= .ok .none (H++ [c.so]):=
 bW rfl rfl (ae (bU rfl rfl (jb (fs' := [(32, .int c.kind)]) rfl (show 0<100 by decide) rfl)) (ae (bU rfl rfl (jb (fs' := [(32, .int c.kind),(9, .int c.d9)]) rfl (show 1<100 by decide) rfl))
  (ae (bU rfl rfl (jb (fs' := [(32, .int c.kind),(9, .int c.d9),(41, .int c.number)]) rfl (show 2<100 by decide) rfl)) (ae (bU rfl rfl (jb (fs' := [(32, .int c.kind),(9, .int c.d9),(41, .int c.number),(31, .bytes c.key)]) rfl (show 3<100 by decide) rfl))
  (ae (bU rfl rfl (jb (fs' := [(32, .int c.kind),(9, .int c.d9),(41, .int c.number),(31, .bytes c.key),(63, .bytes c.value)]) rfl (show 4<100 by decide) rfl)) (ae (bU rfl rfl (jb rfl (show 5<100 by decide) rfl)) aj))))))
theorem R3 {n:Nat}(h:n<=1000):n+300<=big:=by show n+300<=4096;lia
theorem Kc {c:iY}(ok:c.Ok)(h6:c.kind<=6){H:HP}{r:Nat}(hr:H[r]? =some c.so)(d:Nat):∃H',run P (d+4) 59 [.ref r] H= .ok (.bytes c.enc) H' /\Gr H H' :=by
 have v1:=jz c.kind
 have v2:=jz c.d9
 have v3:=jz c.number
 have k1:=ok.key
 have k2:=ok.val
 refine aZ (tJ (d+2) [some (.ref r),none] H) λH1 e1 s1=> ?_
 refine aZ (gn (d:=d) s1 ok.k0 (Int.lt_trans ok.k1 (by decide)) (by decide)) λH2 e2 s2=> ?_
 obtain ⟨H3,e3,s3⟩:=gn (d:=d) s2 ok.c0 ok.c1 (by simp only [aL,List.length_nil,big];lia)
 obtain ⟨H4,e4,s4⟩:=gn (d:=d) s3 ok.n0 ok.n1 (by simp only [aL,List.length_nil,big];lia)
 obtain ⟨H5,e5,s5⟩:=hW (d:=d+1) s4 ok.key (by simp only [aL,List.length_nil,big];lia)
 obtain ⟨H6,e6,s6⟩:=hW (d:=d+1) s5 ok.val (by simp only [aL,dq,List.length_nil,big];lia)
 obtain ⟨H7,e7,s7⟩:=tT (d:=d) s6 ok.exp (by simp only [aL,dq,List.length_nil,big];lia)
 have e8:=oJ (d:=d+2) s7
 rw [show ([]++vb c.kind++vb c.d9++vb c.number++(c.key.length:Int)::c.key++(c.value.length:Int)::c.value++mb c.expect)=c.enc by unfold iY.enc;simp only [List.nil_append,bX]] at e8
 have q0:∀{R:au} {l:cR} {H' :HP} {a:Nat} {v:SV},Gr H H'->l[0]? =some (some (.ref r))->fQ a [(32, .int c.kind),(9, .int c.d9),(41, .int c.number),(31, .bytes c.key),(63, .bytes c.value),(22,ob c.expect)]=some v->bj P R (.attr (.loc 0) a) l H' = .ok v H' :=λg hl hv=>aE (bc hl) (g.at hr) hv
 exact ⟨H7,aF rfl rfl (ae (cF (fu (cZ (an (q0 Gr.refl rfl rfl) rfl (gv (aR (Int.not_lt.mpr ok.k0)))) (cZ (an (q0 Gr.refl rfl rfl) rfl (jI (aR (Int.not_lt.mpr h6)))) fb))) aj) (ae (bJ e1)
  (ae (Fx (ae (bZ (aw rfl (fC s1 64) (aa (q0 s1.gr rfl rfl) af) e2)) (ae (bZ (aw rfl (fC s2 64) (aa (q0 s2.gr rfl rfl) af) e3)) (ae (bZ (aw rfl (fC s3 64) (aa (q0 s3.gr rfl rfl) af) e4))
   (ae (bZ (aw rfl (fC s4 37) (aa (q0 s4.gr rfl rfl) af) e5)) (ae (bZ (aw rfl (fC s5 37) (aa (q0 s5.gr rfl rfl) af) e6)) (ae (bZ (cz (aa rfl (aa (q0 s6.gr rfl rfl) af)) e7)) aj)))))))
  (aY (bK (aw rfl (fC s7 19) af e8)))))),s7.gr⟩
section
variable {H0 H:HP}{pre aH:By}{d:Nat}
theorem xv (h:Cu H0 pre (mb o++aH) H)(ho:∀b,o=some b->b.length<128):∃H',run P (d+4) 61 [.ref H0.length] H= .ok (ob o) H' /\Cu H0 (pre++mb o) aH H' :=by
 cases o with
 |none=>
  refine aZ (wc (d:=d+2) (b:=false) h) λH1 e1 s1=> ?_
  exact ⟨H1,aF rfl rfl (ae (cF (A4 rfl (eX h 26) af e1) aj) (aY (bK rfl))),s1⟩
 |some b=>
  refine aZ (wc (d:=d+2) (b:=true) h) λH1 e1 s1=> ?_
  refine aZ (hY (d:=d) (aH:=aH) s1 (ho b rfl)) λH2 e2 s2=> ?_
  refine ⟨H2,aF rfl rfl (aY (eZ (A4 rfl (eX h 26) af e1) (aY (bK (aw rfl (eX s1 37) af e2))))), ?_⟩
  rw [bX] at s2;exact s2
theorem AI (h:Cu H0 pre aH H):run P (d+1) 14 [.ref H0.length] H= .ok (.int aH.length) H:=by
 have e0:=nR (R:=run P d) (l:= [some (.ref H0.length)]) (i:=0) h rfl
 have e1:=hJ (R:=run P d) (l:= [some (.ref H0.length)]) (i:=0) h rfl
 refine aF rfl rfl (aY (bK (aJ (bq (aa e1 af) rfl) e0 ?_)))
 show dz.ok (SV.int (((pre++aH).length:Int) - pre.length)) H=_
 rw [aL]
 congr 2
 lia
theorem CM {x:Int}(h:Cu H0 pre (x::r) H)(hr:r.length<90000):run P (d+2) 22 [.ref H0.length] H= .exc 2 H:=by
 have e0:=nR (R:=run P (d+1)) (l:= [some (.ref H0.length)]) (i:=0) h rfl
 have e1:=hJ (R:=run P (d+1)) (l:= [some (.ref H0.length)]) (i:=0) h rfl
 refine lf rfl rfl rfl (gZ (eZ (an e0 (bq (aa e1 af) rfl) BW) (gZ (qE (LX (aw rfl (eX h 36) af (AI (d:=d) h)) ?_ ?_)))))
 ·exact fw _
 ·rw [dq];lia
end
theorem XD {a b c:By}:a++(b++c)=(a++b)++c:=(bX ..).symm
theorem FT (c:iY)(t:By):c.enc++t=vb c.kind++(vb c.d9++(vb c.number++((c.key.length:Int)::(c.key++((c.value.length:Int)::(c.value++(mb c.expect++t))))))):=by
 unfold iY.enc
 simp only [bX,List.cons_append]
theorem mw {c:iY}(ok:c.Ok)(t:By)(d:Nat)(H:HP):∃H' pre,Cu H pre t H' /\∀o:cQ,(aK P (run P (d+4)) (.cons (.expr (.eu (.loc 1) 19 .nil)) .nil) [some (.bytes (c.enc++t)),some (.ref H.length),some (.int c.kind),some (.int c.d9),some (.int c.number),some (.bytes c.key),some (.bytes c.value),some (ob c.expect)] H' =o)->
  aK P (run P (d+4)) (.cons (.j4 (.name 1) (.callC 9 (.cons (.loc 0) .nil))) (.cons (.j4 (.name 2) (.eu (.loc 1) 64 .nil)) (.cons (.j4 (.name 3) (.eu (.loc 1) 64 .nil)) (.cons (.j4 (.name 4) (.eu (.loc 1) 64 .nil)) (.cons (.j4 (.name 5) (.eu (.loc 1) 37 .nil)) (.cons (.j4 (.name 6) (.eu (.loc 1) 37 .nil)) (.cons (.j4 (.name 7) (.fS 61 (.cons (.loc 1) .nil))) (.cons (.expr (.eu (.loc 1) 19 .nil)) .nil))))))))
   [some (.bytes (c.enc++t)),none,none,none,none,none,none,none] H=o:=by
 refine aZ (vZ (d:=d+3) (b:=c.enc++t) (run P (d+4)) [some (.bytes (c.enc++t)),none,none,none,none,none,none,none] 0 rfl H) λH1 e1 s1=> ?_
 rw [FT] at s1
 refine aZ (ji (d:=d+1) s1 ok.k0 (Int.lt_trans ok.k1 (by decide))) λH2 e2 s2=> ?_
 refine aZ (ji (d:=d+1) s2 ok.c0 ok.c1) λH3 e3 s3=> ?_
 refine aZ (ji (d:=d+1) s3 ok.n0 ok.n1) λH4 e4 s4=> ?_
 refine aZ (hY (d:=d+1) s4 ok.key) λH5 e5 s5=> ?_
 refine aZ (hY (d:=d+1) s5 ok.val) λH6 e6 s6=> ?_
 refine aZ (xv (d:=d) s6 ok.exp) λH7 e7 s7=> ?_
 exact ⟨H7,_,s7,λo ho=>ae (bJ e1) (ae (bJ (aw rfl (eX s1 64) af e2)) (ae (bJ (aw rfl (eX s2 64) af e3)) (ae (bJ (aw rfl (eX s3 64) af e4))
  (ae (bJ (aw rfl (eX s4 37) af e5)) (ae (bJ (aw rfl (eX s5 37) af e6)) (ae (bJ (cz (aa rfl af) e7)) ho))))))⟩
theorem Ib {c:iY}(ok:c.Ok)(h6:c.kind<=6)(d:Nat)(H:HP):∃H' k,run P (d+5) 62 [.bytes c.enc] H= .ok (.ref k) H' /\Gr H H' /\H'[k]? =some c.so:=by
 refine uz (mw ok [] d H) λH1 pre s1 core=> ?_
 rw [ch] at core
 have e1:=core _ (ae (bZ (aw rfl (eX s1 19) af (pB (d:=d+3) s1))) aj)
 have e2:=AO c (d+3) H1
 exact ⟨H1++ [c.so],H1.length,aF rfl rfl (ae (Fx e1) (ae (cF (an rfl rfl (jI (aR (Int.not_lt.mpr h6)))) aj) (aY (bK (lw (aa rfl (aa rfl (aa rfl (aa rfl (aa rfl (aa rfl af)))))) rfl e2))))),s1.gr.trans ⟨_,rfl⟩,dW ..⟩
theorem EV {c:iY}(ok:c.Ok)(h6:6<c.kind)(d:Nat)(H:HP):∃H',run P (d+5) 62 [.bytes c.enc] H= .exc 7 H' /\Gr H H' :=by
 refine uz (mw ok [] d H) λH1 pre s1 core=> ?_
 rw [ch] at core
 have e1:=core _ (ae (bZ (aw rfl (eX s1 19) af (pB (d:=d+3) s1))) aj)
 exact ⟨H1,lf rfl rfl rfl (ae (Fx e1) (gZ (eZ (an rfl rfl (jI (bf h6))) (gZ (qE (M2 rfl ok.k0 (Int.lt_trans ok.k1 (by decide)))))))),s1.gr⟩
theorem Fq {c:iY}(ok:c.Ok)(x:Int)(d:Nat)(H:HP):∃H',run P (d+5) 62 [.bytes (c.enc++ [x])] H= .exc 7 H' /\Gr H H' :=by
 refine uz (mw ok [x] d H) λH1 pre s1 core=> ?_
 have e1:=core _ (vI (yQ (aw rfl (eX s1 19) af (CM (d:=d+2) s1 (by decide)))))
 exact ⟨H1,lf rfl rfl rfl (gZ (uN e1 rfl)),s1.gr⟩
noncomputable def cl (w:Bool):Int:=if w then 300 else 5
noncomputable def dc (w:Bool):By:=if w then [115,0,0,0,0,0,0,1,44] else [115,0,0,0,0,0,0,0,5]
theorem pe {n:Int}(h0:decide (n<0)=false)(h1:decide (4294967295<n)=false)(e:bT [.int (Builtin.bitAnd n 255), .int (Builtin.bitAnd (n/2^(8:Int).toNat) 255), .int (Builtin.bitAnd (n/2^(16:Int).toNat) 255), .int (n/2^(24:Int).toNat)]=some b)(ho:lG b=true)(d:Nat)(H:HP):
  ∃H',run P (d+1) 8 [.int n] H= .ok (.bytes b) H' /\Gr H H' :=
 ⟨_,aF rfl rfl (ae (cF (fu (cZ (an rfl rfl (gv h0)) (cZ (an rfl rfl (jI h1)) fb))) aj) (aY (bK (bq (aa (bE (aa (aJ rfl rfl rfl) (aa (aJ (aJ rfl rfl rfl) rfl rfl) (aa (aJ (aJ rfl rfl rfl) rfl rfl) (aa (aJ rfl rfl rfl) af))))) af) (cJ (dW ..) e ho))))),⟨_,rfl⟩⟩
theorem xr {n:Int}(h0:decide (n<0)=false)(h1:decide (18446744073709551615<n)=false){d:Nat}(ea:∀H,∃H',run P (d+1) 8 [.int (Builtin.bitAnd n 4294967295)] H= .ok (.bytes a) H' /\Gr H H')(eb:∀H,∃H',run P (d+1) 8 [.int (n/2^(32:Int).toNat)] H= .ok (.bytes b) H' /\Gr H H')(hl:a.length+b.length<=big)(H:HP):
  ∃H',run P (d+2) 9 [.int n] H= .ok (.bytes (a++b)) H' /\Gr H H' :=by
 refine aZ (ea H) λH1 e1 g1=> ?_
 refine aZ (eb H1) λH2 e2 g2=> ?_
 exact ⟨H2,aF rfl rfl (ae (cF (fu (cZ (an rfl rfl (gv h0)) (cZ (an rfl rfl (jI h1)) fb))) aj) (aY (bK (aJ (cz (aa (aJ rfl rfl rfl) af) e1) (cz (aa (aJ rfl rfl rfl) af) e2) (if_pos hl))))),g1.trans g2⟩
theorem kQ (w:Bool)(d:Nat)(H:HP):∃H',run P (d+3) 65 [.int (cl w)] H= .ok (.bytes (dc w)) H' /\Gr H H' :=by
 cases w with
 |false=>
  refine aZ (xr (n:=5) (a:= [5,0,0,0]) (b:= [0,0,0,0]) rfl rfl (pe rfl rfl rfl rfl d) (pe rfl rfl rfl rfl d) (by decide) H) λH1 e1 g1=> ?_
  exact ⟨H1++ [.list [.int 0, .int 0, .int 0, .int 0, .int 0, .int 0, .int 0, .int 5]],aF rfl rfl (ae (bJ (cz (aa rfl af) e1)) (aY (bK (aJ rfl (bq (aa (bE (aa rfl (aa rfl (aa rfl (aa rfl (aa rfl (aa rfl (aa rfl (aa rfl af))))))))) af) (cJ (dW ..) rfl rfl)) rfl)))),g1.trans ⟨_,rfl⟩⟩
 |true=>
  refine aZ (xr (n:=300) (a:= [44,1,0,0]) (b:= [0,0,0,0]) rfl rfl (pe rfl rfl rfl rfl d) (pe rfl rfl rfl rfl d) (by decide) H) λH1 e1 g1=> ?_
  exact ⟨H1++ [.list [.int 0, .int 0, .int 0, .int 0, .int 0, .int 0, .int 1, .int 44]],aF rfl rfl (ae (bJ (cz (aa rfl af) e1)) (aY (bK (aJ rfl (bq (aa (bE (aa rfl (aa rfl (aa rfl (aa rfl (aa rfl (aa rfl (aa rfl (aa rfl af))))))))) af) (cJ (dW ..) rfl rfl)) rfl)))),g1.trans ⟨_,rfl⟩⟩
theorem uY (hk:k.length<=1000)(d:Nat)(H:HP):run P (d+1) 64 [.bytes k] H= .ok (.bytes (100::k)) H:=
 aF rfl rfl (aY (bK (aJ (x:= .bytes [100]) (y:= .bytes k) rfl rfl (if_pos (by show 1+k.length<=4096;lia)))))
noncomputable def U5:List By:= [[97], [100], [100,107],dc false,dc true]
structure dU (U:List By)(so:SO)(D:By->Option By):Prop where
 ex:∃es,(so= .cg es∨(so= .aM/\es= []))/\(∀k,fR k es=(D k).map .bytes)/\(es.map (·.1)).Nodup/\∀k∈es.map (·.1),k∈U
noncomputable abbrev dy (so:SO)(D:By->Option By):Prop:=dU U5 so D
theorem oW (h:dU U so D)(k:By):iq (.bytes k) so=some ((D k).map .bytes):=by
 obtain ⟨es,e|⟨e,e2⟩,h1,_⟩:=h.ex
 ·subst e;exact congrArg some (h1 k)
 ·subst e e2;exact congrArg some (h1 k)
theorem xI {K:Type}[DecidableEq K]{k:K}:∀{es:List (K×SV)} {x:K},fR x (kZ k v es)=if x=k then some v else fR x es
 | [],x=>by
  show (if k=x then some v else none)=_
  by_cases q:x=k
  ·rw [if_pos q.symm,if_pos q]
  ·rw [if_neg (Ne.symm q),if_neg q];rfl
 |p::r,x=>by
  rw [zQ]
  by_cases q:p.1=k
  ·rw [if_pos q]
   show (if p.1=x then some v else fR x r)=_
   by_cases z:x=k
   ·rw [if_pos (q.trans z.symm),if_pos z]
   ·rw [if_neg (λe=>z (e.symm.trans q)),if_neg z]
    show _=if p.1=x then some p.2 else fR x r
    rw [if_neg (λe=>z (e.symm.trans q))]
  ·rw [if_neg q]
   show (if p.1=x then some p.2 else fR x (kZ k v r))=if x=k then some v else (if p.1=x then some p.2 else fR x r)
   rw [xI]
   by_cases z:p.1=x
   ·rw [if_pos z,if_pos z,if_neg (λe=>q (z.trans e))]
   ·rw [if_neg z,if_neg z]
theorem tA {K:Type}[DecidableEq K]{k:K}:∀{es:List (K×SV)},(kZ k v es).map (·.1)=if k∈es.map (·.1) then es.map (·.1) else es.map (·.1)++ [k]
 | []=>by rw [if_neg (by simp)];rfl
 |p::r=>by
  rw [zQ]
  by_cases q:p.1=k
  ·rw [if_pos q,if_pos (by rw [dY,q];exact .head _)];rfl
  ·rw [if_neg q,dY,tA,dY]
   by_cases z:k∈r.map (·.1)
   ·rw [if_pos z,if_pos (.tail _ z)]
   ·rw [if_neg z,if_neg (by rw [List.mem_cons,not_or];exact ⟨Ne.symm q,z⟩)];rfl
theorem sq {K:Type}[DecidableEq K]:∀{l u:List K},l.Nodup->(∀k∈l,k∈u)->l.length<=u.length
 | [],_,_,_=>Nat.zero_le _
 |a::t,u,nd,h=>by
  have hm:=h a (.head _)
  rw [List.nodup_cons] at nd
  have:=sq (l:=t) (u:=u.erase a) nd.2 λk hk=>(List.mem_erase_of_ne (λ(e:k=a)=>nd.1 (by rw [<-e];exact hk))).mpr (h k (.tail _ hk))
  rw [List.length_erase_of_mem hm] at this
  have:=List.length_pos_of_mem hm
  rw [dq]
  lia
set_option tactic.hygienic true in
theorem xU (h:dU U so D){k b:By}(hk:k∈U)(hU:U.length<4096):∃fk,ut (.bytes k) (.bytes b) so=some fk/\dU U fk (λx=>if x=k then some b else D x):=by
 refine J6 h.ex λes e h1 h2 h3=> ?_
 have hl:es.length<big:=by
  have:=sq h2 h3
  rw [bI] at this
  exact fM this hU
 have eR:dU U (.cg (kZ k (.bytes b) es)) (λx=>if x=k then some b else D x):=by
  refine ⟨_, .inl rfl,λx=> ?_, ?_, ?_⟩
  ·rw [xI]
   by_cases q:x=k
   ·rw [if_pos q,if_pos q];rfl
   ·rw [if_neg q,if_neg q];exact h1 x
  ·rw [tA]
   split
   ·exact h2
   ·rename_i q
    exact List.nodup_append.mpr ⟨h2,by simp,λa ha c hc e=>by rw [eF hc] at e;subst e;exact q ha⟩
  ·rw [tA]
   split
   ·exact h3
   ·intro x hx
    rcases gi hx with hx|hx
    ·exact h3 x hx
    ·rw [eF hx];exact hk
 rcases e with e|⟨e,e2⟩
 ·subst e
  exact ⟨_,if_pos hl,eR⟩
 ·subst e e2
  exact ⟨_,rfl,eR⟩
theorem x6:∀{es:List (By×SV)},(es.map (·.1)).Nodup->∀x,fR x (qo k es)=if x=k then none else fR x es
 | [],_,x=>by
  show none=_
  split<;>rfl
 |p::r,nd,x=>by
  rw [dY,List.nodup_cons] at nd
  have off:∀{r:List (By×SV)} {y:By},y∉r.map (·.1)->fR y r=none:=λ{r y} hy=>by
   induction r with
   |nil=>rfl
   |cons q r ih=>
    rw [dY,List.mem_cons,not_or] at hy
    show (if q.1=y then some q.2 else fR y r)=none
    rw [if_neg (Ne.symm hy.1)];exact ih hy.2
  rw [Aa]
  by_cases q:p.1=k
  ·rw [if_pos q]
   by_cases z:x=k
   ·rw [if_pos z,z,<-q];exact off nd.1
   ·rw [if_neg z]
    show _=if p.1=x then some p.2 else fR x r
    rw [if_neg (λe=>z (e.symm.trans q))]
  ·rw [if_neg q]
   show (if p.1=x then some p.2 else fR x (qo k r))=if x=k then none else (if p.1=x then some p.2 else fR x r)
   rw [x6 nd.2 x]
   by_cases z:p.1=x
   ·rw [if_pos z,if_pos z,if_neg (λe=>q (z.trans e))]
   ·rw [if_neg z,if_neg z]
theorem sx:∀{es:List (By×SV)},((qo k es).map (·.1)).Sublist (es.map (·.1))
 | []=> .slnil
 |p::r=>by
  rw [Aa]
  by_cases q:p.1=k
  ·rw [if_pos q];exact .cons _ (List.Sublist.refl _)
  ·rw [if_neg q];exact List.Sublist.cons_cons _ sx
theorem yj (h:dU U so D)(hk:D k=some b):∃fk,y9 (.bytes k) so=some fk/\dU U fk (λx=>if x=k then none else D x):=by
 refine J6 h.ex λes e h1 h2 h3=> ?_
 have hg:(fR k es).isSome=true:=by rw [h1,hk];rfl
 rcases e with e|⟨e,e2⟩
 ·subst e
  refine ⟨_,if_pos hg,_, .inl rfl,λx=> ?_,h2.sublist sx,λx hx=>h3 x (sx.subset hx)⟩
  rw [x6 h2]
  by_cases q:x=k
  ·rw [if_pos q,if_pos q];rfl
  ·rw [if_neg q,if_neg q];exact h1 x
 ·subst e2;cases hg
noncomputable def bH (di bi:Nat)(aU aW:Int):SO:= .inst 16 [(40, .ref di),(6, .ref bi),(30, .int aU),(33, .int aW)]
noncomputable def aX (si:Nat)(applied term:Int)(aP:By)(aO:Int)(sync:Bool):SO:= .inst 15 [(57, .ref si),(2, .int applied),(62, .int term),(11, .bytes aP),(20, .int aO),(59, .bool sync)]
section
variable {H:HP}{si di bi mi:Nat}{aU aW applied term aO:Int}{aP:By}{sync:Bool}{so:SO}{D:By->Option By}
theorem PZ {R:au}(hd:H[di]? =some so)(hD:dy so D):dl R .iW (.ref di) [.bytes k] H= .ok (ob (D k)) H:=by
 show (match H[di]? with
   |some o=>(match iq (.bytes k) o with|some x=>dz.ok (x.getD .none) H|none=> .bad)
   |none=> .bad)=_
 rw [hd]
 dsimp only
 rw [oW hD]
 cases D k<;>rfl
theorem LG (hd:H[di]? =some so)(hD:dy so D):d7 P (.ref di) 27 H=some .iW:=by
 rw [bO hd]
 obtain ⟨es,e|⟨e,_⟩,_⟩:=hD.ex<;>subst e<;>rfl
theorem yv {k:By}(hs:H[si]? =some (bH di bi aU aW))(hd:H[di]? =some so)(hD:dy so D)(d:Nat):run P (d+1) 90 [.ref si, .bytes k] H= .ok (ob (D k)) H:=
 aF rfl rfl (aY (bK (aw (aE rfl hs rfl) (LG hd hD) (aa rfl af) (PZ hd hD))))
noncomputable def yi (aW:Int)(op:Bool)(dh:By):By:=vb aW++(if op then 1 else 0)::(dh.length:Int)::dh
theorem uh (hm:H[mi]? =some (aX si applied term aP aO sync))(hs:H[si]? =some (bH di bi aU aW))(hd:H[di]? =some so)(hD:dy so D)(e:D (dc w)=none)(d:Nat):
  ∃H',run P (d+5) 79 [.ref mi, .int (cl w)] H= .ok (.tuple [.int (-1), .bool false, .bytes []]) H' /\Gr H H' :=by
 refine aZ (kQ w (d+1) H) λH1 e1 g1=> ?_
 have e2:=yv (k:=dc w) (g1.at hs) (g1.at hd) hD (d+3)
 rw [e] at e2
 exact ⟨H1,aF rfl rfl (ae (bJ (aw (q:= .fn 90) (v:= .ref si) (aE rfl hm rfl) (bO hs) (aa (cz (aa rfl af) e1) af) e2)) (aY (eZ (an rfl rfl rfl) (aY (bK rfl))))),g1⟩
theorem uH {n:Int}(hm:H[mi]? =some (aX si applied term aP aO sync))(hs:H[si]? =some (bH di bi aU aW))(hd:H[di]? =some so)(hD:dy so D)(e:D (dc w)=some (yi n op dh))(h0:0<=n)(h1:n<16384)(hr:dh.length<128)(d:Nat):
  ∃H',run P (d+5) 79 [.ref mi, .int (cl w)] H= .ok (.tuple [.int n, .bool op, .bytes dh]) H' /\Gr H H' :=by
 refine aZ (kQ w (d+1) H) λH1 e1 g1=> ?_
 have e2:=yv (k:=dc w) (g1.at hs) (g1.at hd) hD (d+3)
 rw [e] at e2
 refine aZ (lr (op:=op) h0 h1 hr d H1) λH2 e3 g2=> ?_
 exact ⟨H2,aF rfl rfl (ae (bJ (aw (q:= .fn 90) (v:= .ref si) (aE rfl hm rfl) (bO hs) (aa (cz (aa rfl af) e1) af) e2)) (ae (cF (an rfl rfl rfl) aj) (aY (bK (cz (aa rfl af) e3))))),g1.trans g2⟩
end
noncomputable def y4 (kind:Int)(key value:By):SV:= .tuple [.int kind, .bytes key, .bytes value]
noncomputable def Wb (H0:HP)(fp:List SV)(H:HP):Prop:=∃G w,H=H0++ .inst 11 [(51, .ref (H0.length+1)),(66, .int w)]:: .list fp::G
noncomputable def Kb (H0 H H' :HP):Prop:=∀i o,i≠H0.length->i≠H0.length+1->H[i]? =some o->H'[i]? =some o
theorem Kb.trans {H0 H H1 H2:HP}(a:Kb H0 H H1)(b:Kb H0 H1 H2):Kb H0 H H2:=λi o h1 h2 e=>b i o h1 h2 (a i o h1 h2 e)
theorem Gr.kb (a:Gr H H1):Kb H0 H H1:=λi o u8 u8 e=>a.at e
theorem VF:Kb H0 (H0++a::b::G) (H0++a' ::b' ::G):=λi o h1 h2 e=>by
 rcases Nat.lt_or_ge i H0.length with q|q
 ·rw [iM q] at e⊢;exact e
 ·rw [eG q] at e⊢
  obtain ⟨j,hj⟩:∃j,i - H0.length=j+2:=⟨i - H0.length - 2,by lia⟩
  rw [hj] at e⊢
  exact e
section
variable {H0 H:HP}{fp:List SV}{d:Nat}
theorem jT {R:au}{k:Nat}(h:H[k]? =some (.list vs))(hl:vs.length<big):dl R .nf (.ref k) [v] H= .ok .none (H.set k (.list (vs++ [v]))):=by
 show (match H[k]? with
   |some (.list vs)=>if vs.length<big then dz.ok SV.none (H.set k (.list (vs++ [v]))) else .bad
   |_=> .bad)=_
 rw [h]
 exact if_pos hl
theorem Wb.gr (h:Wb H0 fp H):Gr H0 H:=by obtain ⟨G,w,rfl⟩:=h;exact ⟨_,rfl⟩
theorem Wb.more (h:Wb H0 fp H)(g:Gr H H'):Wb H0 fp H' :=by
 refine zx h λG w de=> ?_;clear h;subst de
 obtain ⟨G',rfl⟩:=g
 exact ⟨_,w,Qi⟩
theorem zf (d:Nat)(l:cR)(H:HP):∃H',bj P (run P (d+1)) (.callC 11 .nil) l H= .ok (.ref H.length) H' /\Wb H [] H' :=by
 have h1:bD P (.ref H.length) 51 (.ref (H++ [SO.inst 11 []]).length) ((H++ [SO.inst 11 []])++ [SO.list []])=some (H++SO.inst 11 [(51, .ref (H.length+1))]:: [SO.list []]):=by
  rw [ng,aL,sM rfl (by decide)]
  rfl
 have h2:bD P (.ref H.length) 66 (.int 12) (H++SO.inst 11 [(51, .ref (H.length+1))]:: [SO.list []])=some (H++SO.inst 11 [(51, .ref (H.length+1)),(66, .int 12)]:: [SO.list []]):=sM rfl (show 1<100 by decide)
 exact ⟨_,lw af rfl (bW rfl rfl (ae (bU (bE af) rfl h1) (ae (bU rfl rfl h2) aj))), [],12,rfl⟩
theorem po (h:Wb H0 fp H){m f:Nat}(hf:P.mD 11 m=some f)(h1:51≠m)(h2:66≠m):d7 P (.ref H0.length) m H=some (.fn f):=by
 refine zx h λG w de=> ?_;clear h;subst de
 rw [bO nE]
 have hg:fQ m [(51,SV.ref (H0.length+1)),(66, .int w)]=none:=by
  rw [EA]
  rw [if_neg h1]
  rw [EA]
  rw [if_neg h2];rfl
 show (match P.mD 11 m,fQ m [(51,SV.ref (H0.length+1)),(66, .int w)] with|some f,none=>some (MK.fn f)|_,_=>none)=_
 rw [hf,hg]
theorem r7 (h:Wb H0 fp H){R:au}{i:Nat}(hi:l[i]? =some (some (.ref H0.length))):bj P R (.attr (.loc i) 51) l H= .ok (.ref (H0.length+1)) H:=by
 refine zx h λG w de=> ?_;clear h;subst de
 exact aE (bc hi) nE rfl
theorem vP (h:Wb H0 fp H):H[H0.length+1]? =some (.list fp):=by
 refine zx h λG w de=> ?_;clear h;subst de
 exact sb
theorem XS {R:au}(h:gK P R c l H= .ok false H1):gJ P R (.yo c b) l H= .next l H1:=U4 (test:=λl H=>gK P R c l H) (n:=63) h
theorem jx {n:Nat}(hn:n<128)(d:Nat)(H:HP):run P (d+1) 7 [.int n] H= .ok (.int 1) H:=
 aF rfl rfl (ae (cF (fu (cZ (an rfl rfl (gv (aR (Int.not_lt.mpr (fw _))))) (cZ (an rfl rfl (jI (aR (by lia)))) fb))) aj) (ae (bJ rfl) (ae (XS (an rfl rfl (pZ (aR (by lia))))) (aY (bK rfl)))))
theorem pU (h:Wb H0 fp H){R:au}{i:Nat}{a:Int}(hi:l[i]? =some (some (.ref H0.length)))(he:bj P R e l H= .ok (.int a) H):∃H',gJ P R (.tF (.loc i) 66 .add e) l H= .next l H' /\Wb H0 fp H' /\Kb H0 H H' :=by
 refine zx h λG w de=> ?_;clear h;subst de
 have e4:eC (.ref H0.length) 66 (H0++ .inst 11 [(51, .ref (H0.length+1)),(66, .int w)]:: .list fp::G)= .ok (.int w) (H0++ .inst 11 [(51, .ref (H0.length+1)),(66, .int w)]:: .list fp::G):=by
  unfold eC
  dsimp only
  rw [nE];rfl
 exact ⟨_,AH (bc hi) e4 he rfl (sM rfl (show 2<100 by decide)),⟨G,w+a,rfl⟩,VF⟩
theorem D2 (h:Wb H0 fp H){v:SV}(hl:fp.length<big){R:au}:∃H',dl R .nf (.ref (H0.length+1)) [v] H= .ok .none H' /\Wb H0 (fp++ [v]) H' /\Kb H0 H H' :=by
 refine zx h λG w de=> ?_;clear h;subst de
 exact ⟨_,jT sb hl,⟨G,w,JQ⟩,by rw [JQ];exact VF⟩
theorem KN (h:Wb H0 fp H):d7 P (.ref (H0.length+1)) 1 H=some .nf:=by
 rw [bO (vP h)];rfl
theorem Cn (h:Wb H0 fp H)(hk:key.length<128)(hv:value.length<128)(hl:fp.length<big):∃H',run P (d+2) 35 [.ref H0.length, .int 1, .bytes key, .bytes value] H= .ok .none H' /\Wb H0 (fp++ [y4 1 key value]) H' /\Kb H0 H H' :=by
 refine mF (pU (R:=run P (d+1)) (l:= [some (.ref H0.length),some (.int 1),some (.bytes key),some (.bytes value)]) (i:=0) (e:= .bin .add (.bin .add (.int 1) (.fS 7 (.cons (.bG .len (.cons (.loc 2) .nil)) .nil))) (.bG .len (.cons (.loc 2) .nil))) h rfl (aJ (aJ rfl (cz (aa (bq (aa rfl af) rfl) af) (jx hk d H)) rfl) (bq (aa rfl af) rfl) rfl)) λH1 e1 s1 k1=> ?_
 refine mF (pU (R:=run P (d+1)) (l:= [some (.ref H0.length),some (.int 1),some (.bytes key),some (.bytes value)]) (i:=0) (e:= .bin .add (.fS 7 (.cons (.bG .len (.cons (.loc 3) .nil)) .nil)) (.bG .len (.cons (.loc 3) .nil))) s1 rfl (aJ (cz (aa (bq (aa rfl af) rfl) af) (jx hv d H1)) (bq (aa rfl af) rfl) rfl)) λH2 e2 s2 k2=> ?_
 refine mF (D2 (v:=y4 1 key value) (R:=run P (d+1)) s2 hl) λH3 e3 s3 k3=> ?_
 exact ⟨H3,bW rfl rfl (ae e1 (ae (eZ (an rfl rfl rfl) (ae e2 aj)) (ae (bZ (aw (r7 s2 rfl) (KN s2) (aa (cX (aa rfl (aa rfl (aa rfl af)))) af) e3)) aj))),s3,(k1.trans k2).trans k3⟩
theorem Cj (h:Wb H0 fp H)(hk:key.length<128)(hl:fp.length<big):∃H',run P (d+2) 35 [.ref H0.length, .int 0, .bytes key, .bytes value] H= .ok .none H' /\Wb H0 (fp++ [y4 0 key value]) H' /\Kb H0 H H' :=by
 refine mF (pU (R:=run P (d+1)) (l:= [some (.ref H0.length),some (.int 0),some (.bytes key),some (.bytes value)]) (i:=0) (e:= .bin .add (.bin .add (.int 1) (.fS 7 (.cons (.bG .len (.cons (.loc 2) .nil)) .nil))) (.bG .len (.cons (.loc 2) .nil))) h rfl (aJ (aJ rfl (cz (aa (bq (aa rfl af) rfl) af) (jx hk d H)) rfl) (bq (aa rfl af) rfl) rfl)) λH1 e1 s1 k1=> ?_
 refine mF (D2 (v:=y4 0 key value) (R:=run P (d+1)) s1 hl) λH3 e3 s3 k3=> ?_
 exact ⟨H3,bW rfl rfl (ae e1 (ae (cF (an rfl rfl rfl) aj) (ae (bZ (aw (r7 s1 rfl) (KN s1) (aa (cX (aa rfl (aa rfl (aa rfl af)))) af) e3)) aj))),s3,k1.trans k3⟩
theorem El (h:Wb H0 fp H)(hk:key.length<128)(hv:value.length<128)(hl:fp.length<big):∃H',run P (d+3) 33 [.ref H0.length, .bytes key, .bytes value] H= .ok .none H' /\Wb H0 (fp++ [y4 1 key value]) H' /\Kb H0 H H' :=by
 refine aZ (Cn (d:=d) h hk hv hl) λH1 e1 s1=> ?_
 exact ⟨H1,bW rfl rfl (ae (bZ (aw rfl (po h (f:=35) rfl (by decide) (by decide)) (aa rfl (aa (bq (aa rfl af) rfl) (aa (bq (aa rfl af) rfl) af))) e1)) aj),s1⟩
theorem NG (h:Wb H0 fp H)(hk:key.length<128)(hl:fp.length<big):∃H',run P (d+3) 34 [.ref H0.length, .bytes key] H= .ok .none H' /\Wb H0 (fp++ [y4 0 key []]) H' /\Kb H0 H H' :=by
 refine aZ (Cj (d:=d) (value:= []) h hk hl) λH1 e1 s1=> ?_
 exact ⟨H1,bW rfl rfl (ae (bZ (aw rfl (po h (f:=35) rfl (by decide) (by decide)) (aa rfl (aa (bq (aa rfl af) rfl) (aa rfl af))) e1)) aj),s1⟩
theorem ca {k:Nat}(h:H[k]? =some (.list vs)):Mine.bG Bi.len [.ref k] H= .ok (.int vs.length) H:=by
 show (match H[k]? with|some (.list vs)=>dz.ok (SV.int vs.length) H|_=> .bad)=_
 rw [h]
theorem Gg (h:Wb H0 fp H):run P (d+1) 37 [.ref H0.length] H= .ok (.int fp.length) H:=
 aF rfl rfl (aY (bK (bq (aa (r7 h rfl) af) (ca (vP h)))))
theorem Tr (h:Wb H0 fp H):run P (d+1) 40 [.ref H0.length] H= .ok (.ref H.length) (H++ [.list fp]):=by
 refine aF rfl rfl (aY (bK (bq (aa (r7 h rfl) af) ?_)))
 show (match H[H0.length+1]? with|some (.list vs)=>dz.ok (SV.ref H.length) (H++ [SO.list vs])|_=> .bad)=_
 rw [vP h]
end
section
variable {R:au}{l:cR}{H H1 H2:HP}{e e1:SE}{f:Nat}{es:nG}{vs:List SV}{q:Bool}
theorem wE (h:bj P R e l H= .ok (.bool p) H1)(h2:p=true->bj P R e1 l H1= .ok (.bool q) H1)(hq:p=false->q=false):bj P R (.and (.cons e (.cons e1 .nil))) l H= .ok (.bool q) H1:=by
 show (bj P R e l H).bind _=_
 rw [h]
 cases p with
 |true=>exact h2 rfl
 |false=>rw [hq rfl];rfl
theorem mx (h:gK P R e l H= .ok q H1):gK P R (.not e) l H= .ok (!q) H1:=by
 show (gK P R e l H).bind _=_
 rw [h];rfl
theorem Pc (h:dM P R es l H= .ok vs H1)(h2:R f vs H1= .ok (.bool q) H2):gK P R (.fS f es) l H= .ok q H2:=by
 show ((dM P R es l H).bind λvs H=>R f vs H).bind _=_
 rw [h]
 show (R f vs H1).bind _=_
 rw [h2];rfl
end
noncomputable def U7 (o:Option By):Bool:=match o with
 |none=>true
 |some _=>false
theorem Q8 (o:Option By)(H:HP):bV .is (ob o) .none H=some (U7 o):=by cases o<;>rfl
theorem Mf (o:Option By)(H:HP):bV .gh (ob o) .none H=some (!U7 o):=by cases o<;>rfl
theorem i5 (a b:Int)(H:HP):bV .eq (.int a) (.int b) H=some (decide (a=b)):=rfl
theorem k8 (a b:Int)(H:HP):bV .ne (.int a) (.int b) H=some (!decide (a=b)):=rfl
theorem xP (a b:Option By)(d:Nat)(H:HP):run P (d+1) 84 [ob a,ob b] H= .ok (.bool (decide (a=b))) H:=by
 cases a with
 |none=>cases b with
  |none=>exact aF rfl rfl (aY (eZ (fu (j0 (an rfl rfl rfl))) (aY (bK (wE (fU rfl rfl rfl) (λu8=>fU rfl rfl rfl) (λz=>nomatch z))))))
  |some y=>exact aF rfl rfl (aY (eZ (fu (j0 (an rfl rfl rfl))) (aY (bK (wE (fU rfl rfl rfl) (λu8=>fU rfl rfl rfl) (λz=>nomatch z))))))
 |some x=>cases b with
  |none=>exact aF rfl rfl (aY (eZ (fu (cZ (an rfl rfl rfl) (j0 (an rfl rfl rfl)))) (aY (bK (wE (fU rfl rfl rfl) (λz=>nomatch z) (λu8=>rfl))))))
  |some y=>
   refine aF rfl rfl (ae (cF (fu (cZ (an rfl rfl rfl) (cZ (an rfl rfl rfl) fb))) aj) (aY (bK (fU rfl rfl ?_))))
   show some (x==y)=_
   by_cases q:x=y
   ·subst q
    rw [iV,bf rfl]
   ·rw [eS q,aR (λe=>q (cq e))]
noncomputable def idle (c:iY):Bool:=decide (c.kind=0)||(decide (c.kind=5)||decide (c.kind=6))
noncomputable def dj (c:iY):By:=100::c.key
noncomputable def kY (c:iY)(cx:Option By):List SV:=
 if idle c then [] else
 if c.kind=1 then [y4 1 (dj c) c.value] else
 if c.kind=2 then (match cx with
  |some _=> [y4 0 (dj c) []]
  |none=> []) else
 if c.kind=3 then (if cx=c.expect then [y4 1 (dj c) c.value] else []) else
 match cx with
  |none=> [y4 1 (dj c) c.value]
  |some o=> [y4 1 (dj c) (o++c.value)]
noncomputable def bF (c:iY)(cx:Option By):By:=if idle c then 0::mb none else if c.kind=3/\cx≠c.expect then 1::mb cx else 0::mb cx
theorem Bt (h:¬idle c=true):c.kind≠0/\c.kind≠5/\c.kind≠6:=by
 unfold idle at h
 simpa only [Bool.or_eq_true,decide_eq_true_eq,not_or] using h
theorem ip {R:au}{n k:Int}(h:bj P R e l H= .ok (.int n) H1)(h2:decide (n=k)=q):gK P R (.cmp .eq e (.int k)) l H= .ok q H1:=an h rfl ((i5 _ _ _).trans (congrArg some h2))
theorem ki {R:au}{k:Nat}{n m:Int}(hl:l[k]? =some (some (.int n)))(h:decide (n=m)=b):gK P R (.cmp .eq (.loc k) (.int m)) l H= .ok b H:=ip (bc hl) h
theorem gR {R:au}{l:cR}{H:HP}{c:iY}{k a:Nat}(hk:H[k]? =some c.so)(hl:l[1]? =some (some (.ref k)))(hv:fQ a [(32, .int c.kind),(9, .int c.d9),(41, .int c.number),(31, .bytes c.key),(63, .bytes c.value),(22,ob c.expect)]=some v):bj P R (.attr (.loc 1) a) l H= .ok v H:=aE (bc hl) hk hv
theorem kT (hi:¬idle c=true)(h:¬(c.kind=3/\cx≠c.expect)):bF c cx=0::mb cx:=(if_neg hi).trans (if_neg h)
noncomputable def DA (mi k b:Nat)(c:iY)(cx:Option By):cR:= [some (.ref mi),some (.ref k),some (.ref b),some (.int c.kind),some (.bytes (dj c)),some (ob cx)]
section
variable {H0 H:HP}{si di bi mi:Nat}{aU aW applied term aO:Int}{aP:By}{sync:Bool}{so:SO}{D:By->Option By}{c:iY}{k:Nat}
theorem Im (hi:idle c=true)(hk:H[k]? =some c.so)(b:Nat)(d:Nat):∃H',run P (d+5) 77 [.ref mi, .ref k, .ref b] H= .ok (.bytes (0::mb none)) H' /\Gr H H' :=by
 refine aZ (jS (o:=none) (code:=0) (by decide) (by decide) (λu8 z=>mZ z) d H) λH1 e1 g1=> ?_
 refine ⟨H1,aF rfl rfl (ae (bJ (gR hk rfl rfl)) (aY (eZ (fu ?_) (aY (bK (cz (aa rfl (aa rfl af)) e1)))))),g1⟩
 unfold idle at hi
 by_cases q0:c.kind=0
 ·exact j0 (ki rfl (bf q0))
 rw [aR q0,Bool.false_or] at hi
 refine cZ (ki rfl (aR q0)) ?_
 by_cases q5:c.kind=5
 ·exact j0 (ki rfl (bf q5))
 rw [aR q5,Bool.false_or] at hi
 exact cZ (ki rfl (aR q5)) (j0 (ki rfl hi))
theorem Au (hm:H0[mi]? =some (aX si applied term aP aO sync))(hs:H0[si]? =some (bH di bi aU aW))(hd:H0[di]? =some so)(hD:dy so D)(hb:Wb H0 [] H)(hk:H[k]? =some c.so)(ok:c.Ok)
  (Nm:c.key.length<=100) (hold:∀b,D (dj c)=some b->b.length+c.value.length<128) (d:Nat) {C:Prop}
  (K:∀H',run P (d+5) 77 [.ref mi, .ref k, .ref H0.length] H= .ok (.bytes (bF c (D (dj c)))) H'->Wb H0 (kY c (D (dj c))) H'->Kb H0 H H'->C):C:=by
 by_cases hi:idle c=true
 ·refine aZ (Im (mi:=mi) hi hk H0.length d) λH1 e1 g1=> ?_
  exact K H1 ((show bF c (D (dj c))=0::mb none from if_pos hi)▸e1) ((show kY c (D (dj c))= [] from if_pos hi)▸hb.more g1) g1.kb
 have hn:=Bt hi
 have g0:=hb.gr
 have hg:=yv (k:=dj c) (g0.at hs) (g0.at hd) hD (d+3)
 generalize D (dj c)=cx at hg hold K
 have lp:(dj c).length<128:=fM (Nat.succ_le_succ Nm) (by decide)
 have KI:∀b,cx=some b->b.length<128:=λb e=>fM (gU _ _) (hold b e)
 have pre:∀{o:cQ},aK P (run P (d+4)) (bx 4 Re) (DA mi k H0.length c cx) H=o->aK P (run P (d+4)) Re [some (.ref mi),some (.ref k),some (.ref H0.length),none,none,none] H=o:=λh=>
  ae (bJ (gR hk rfl rfl)) (ae (cF (fu (cZ (ki rfl (aR hn.1)) (cZ (ki rfl (aR hn.2.1)) (cZ (ki rfl (aR hn.2.2)) fb)))) aj)
   (ae (bJ (cz (aa (gR hk rfl rfl) af) (uY (cy Nm (by decide)) (d+3) H))) (ae (bJ (aw (q:= .fn 90) (v:= .ref si) (aE rfl (g0.at hm) rfl) (bO (g0.at hs)) (aa rfl af) hg)) h)))
 have eR:∀{H1:HP} {ops:List SV},gJ P (run P (d+4)) (cL (bx 4 Re)) (DA mi k H0.length c cx) H= .next (DA mi k H0.length c cx) H1->Wb H0 ops H1->Kb H0 H H1->¬(c.kind=3/\cx≠c.expect)->kY c cx=ops->C:=λ{H1 ops} h s k1 n e=>by
  refine aZ (jS (o:=cx) (code:=0) (by decide) (by decide) KI d H1) λH2 e2 g2=> ?_
  exact K H2 (kT hi n▸aF rfl rfl (pre (ae h (aY (bK (cz (aa rfl (aa rfl af)) e2)))))) (e▸s.more g2) (k1.trans g2.kb)
 have put:∀{v:By} {e:SE},v.length<128->bj P (run P (d+4)) e (DA mi k H0.length c cx) H= .ok (.bytes v) H->(∀H1,gJ P (run P (d+4)) (.expr (.eu (.loc 2) 47 (.cons (.loc 4) (.cons e .nil)))) (DA mi k H0.length c cx) H= .next (DA mi k H0.length c cx) H1->Wb H0 [y4 1 (dj c) v] H1->Kb H0 H H1->C)->C:=λ{v e} hv he k=>by
  refine mF (El (d:=d+1) (key:=dj c) (value:=v) hb lp hv (by decide)) λH1 e1 s1 k1=> ?_
  exact k H1 (bZ (aw rfl (po hb (f:=33) rfl (by decide) (by decide)) (aa rfl (aa he af)) e1)) s1 k1
 by_cases q1:c.kind=1
 ·exact put ok.val (gR hk rfl rfl) λH1 h s1 k1=>eR (eZ (ki rfl (bf q1)) (ae h aj)) s1 k1 (λz=>absurd (z.1.symm.trans q1) (by decide)) ((if_neg hi).trans (if_pos q1))
 have n1:kY c cx=_:=(if_neg hi).trans (if_neg q1)
 by_cases q2:c.kind=2
 ·have n3:¬(c.kind=3/\cx≠c.expect):=λz=>absurd (z.1.symm.trans q2) (by decide)
  have n2:=n1.trans (if_pos q2)
  cases cx with
  |none=>exact eR (cF (ki rfl (aR q1)) (ae (eZ (ki rfl (bf q2)) (ae (cF (an rfl rfl rfl) aj) aj)) aj)) hb (Gr.kb Gr.refl) n3 n2
  |some b=>
   refine mF (NG (d:=d+1) (key:=dj c) hb lp (by decide)) λH1 e1 s1 k1=> ?_
   exact eR (cF (ki rfl (aR q1)) (ae (eZ (ki rfl (bf q2)) (ae (eZ (an rfl rfl rfl) (ae (bZ (aw rfl (po hb (f:=34) rfl (by decide) (by decide)) (aa rfl af) e1)) aj)) aj)) aj)) s1 k1 n3 n2
 have n2:=n1.trans (if_neg q2)
 by_cases q3:c.kind=3
 ·have n3:=n2.trans (if_pos q3)
  have e0:=xP cx c.expect (d+3) H
  by_cases qe:cx=c.expect
  ·rw [bf qe] at e0
   exact put ok.val (gR hk rfl rfl) λH1 h s1 k1=>eR (cF (ki rfl (aR q1)) (ae (cF (ki rfl (aR q2)) (ae (eZ (ki rfl (bf q3)) (ae (cF (mx (Pc (aa rfl (aa (gR hk rfl rfl) af)) e0)) aj) (ae h aj))) aj)) aj)) s1 k1 (λz=>z.2 qe) (n3.trans (if_pos qe))
  ·rw [aR qe] at e0
   refine aZ (jS (o:=cx) (code:=1) (by decide) (by decide) KI d H) λH2 e2 g2=> ?_
   exact K H2 ((show bF c cx=1::mb cx from (if_neg hi).trans (if_pos ⟨q3,qe⟩))▸aF rfl rfl (pre (aY (cF (ki rfl (aR q1)) (aY (cF (ki rfl (aR q2)) (aY (eZ (ki rfl (bf q3)) (aY (eZ (mx (Pc (aa rfl (aa (gR hk rfl rfl) af)) e0)) (aY (bK (cz (aa rfl (aa rfl af)) e2))))))))))))) ((n3.trans (if_neg qe))▸hb.more g2) g2.kb
 have n3:=n2.trans (if_neg q3)
 have m3:¬(c.kind=3/\cx≠c.expect):=λz=>q3 z.1
 cases cx with
 |none=>exact put ok.val (gR hk rfl rfl) λH1 h s1 k1=>eR (cF (ki rfl (aR q1)) (ae (cF (ki rfl (aR q2)) (ae (cF (ki rfl (aR q3)) (ae (eZ (an rfl rfl rfl) (ae h aj)) aj)) aj)) aj)) s1 k1 m3 n3
 |some b=>
  have xY:=hold b rfl
  have eb:cE .add (.bytes b) (.bytes c.value) H= .ok (.bytes (b++c.value)) H:=if_pos (by show b.length+c.value.length<=4096;exact lD ‹_› rfl)
  exact put (by rw [aL];exact xY) (aJ (x:= .bytes b) (y:= .bytes c.value) rfl (gR hk rfl rfl) eb) λH1 h s1 k1=>eR (cF (ki rfl (aR q1)) (ae (cF (ki rfl (aR q2)) (ae (cF (ki rfl (aR q3)) (ae (cF (an rfl rfl rfl) (ae h aj)) aj)) aj)) aj)) s1 k1 m3 n3
end
noncomputable abbrev kX:=Option (Int×Bool×By)
noncomputable def cG:kX->Int
 |none=> -1
 |some s=>s.1
noncomputable def cY:kX->Bool
 |none=>false
 |some s=>s.2.1
noncomputable def f0:kX->By
 |none=> []
 |some s=>s.2.2
structure z7 (S:kX):Prop where
 ok:∀s,S=some s->0<=s.1/\s.1<16384/\s.2.2.length<128
noncomputable def A0 (c:iY)(w:Bool)(S:kX)(cx:Option By):List SV:=
 if c.number=cG S then [] else if c.number<cG S then [] else if (!cY S&& !decide (c.kind=5))=true then [] else kY c cx++ [y4 1 (dc w) (yi c.number (!decide (c.kind=6)) (bF c cx))]
noncomputable def f8 (c:iY)(S:kX)(cx:Option By):By:=
 if c.number=cG S then f0 S else if c.number<cG S then 3::mb none else if (!cY S&& !decide (c.kind=5))=true then 2::mb none else bF c cx
theorem GL {o:Option By}{n:Nat}(h:∀b,o=some b->b.length<=n):(mb o).length<=n+2:=by
 cases o with
 |none=>show 1<=n+2;exact lE rfl
 |some b=>
  have:=h b rfl
  show b.length+1+1<=n+2
  lia
theorem pq {c:iY}{n:Nat}(h:∀b,o=some b->b.length<=n):(bF c o).length<=n+3:=by
 have h1:=GL h
 unfold bF
 split
 ·show 2<=n+3;exact lE rfl
 ·split<;>(rw [dq];lia)
section
variable {H0 H:HP}{si di bi mi:Nat}{aU aW applied term aO:Int}{aP:By}{sync:Bool}{so:SO}{D:By->Option By}{c:iY}{k:Nat}{w:Bool}{S:kX}
theorem pg (hm:H[mi]? =some (aX si applied term aP aO sync))(hs:H[si]? =some (bH di bi aU aW))(hd:H[di]? =some so)(hD:dy so D)(e:D (dc w)=S.map λs=>yi s.1 s.2.1 s.2.2)(hS:z7 S)(d:Nat):
  ∃H',run P (d+5) 79 [.ref mi, .int (cl w)] H= .ok (.tuple [.int (cG S), .bool (cY S), .bytes (f0 S)]) H' /\Gr H H' :=by
 cases S with
 |none=>exact uh hm hs hd hD e d
 |some s=>
  refine rm (hS.ok s rfl) λh0 h1 h2=> ?_
  exact uH hm hs hd hD e h0 h1 h2 d
theorem QJ (hb:Wb H0 [] H)(hk:H[k]? =some c.so):k≠H0.length/\k≠H0.length+1:=by
 refine zx hb λG w de=> ?_;clear hb;subst de
 refine ⟨λe=> ?_,λe=> ?_⟩
 ·rw [e,nE] at hk;cases hk
 ·rw [e,sb] at hk;cases hk
theorem Kg (w:Bool):(dc w).length<128:=by cases w<;>decide
theorem Cm:(kY c o).length<big:=by
 unfold kY
 repeat' (first|exact (show (0:Nat)<4096 by decide)|exact (show (1:Nat)<4096 by decide)|split)
theorem KM {H:HP}{code:Int}(h0:0<=code)(h1:code<256)(d:Nat)(l:cR):∃H',bj P (run P (d+5)) (.fS 63 (.cons (.int code) (.cons .none .nil))) l H= .ok (.bytes (code::mb none)) H' /\Gr H H' :=by
 refine aZ (jS (o:=none) h0 h1 (λu8 z=>mZ z) (d+1) H) λH2 e2 g2=> ?_
 exact ⟨H2,cz (aa rfl (aa rfl af)) e2,g2⟩
theorem y6 (hm:H0[mi]? =some (aX si applied term aP aO sync))(hs:H0[si]? =some (bH di bi aU aW))(hd:H0[di]? =some so)(hD:dy so D)(hb:Wb H0 [] H)(hk:H[k]? =some c.so)(ok:c.Ok)(hc:c.d9=cl w)
  (Nm:c.key.length<=100) (hold:∀b,D (dj c)=some b->b.length+c.value.length<=100) (e:D (dc w)=S.map λs=>yi s.1 s.2.1 s.2.2) (hS:z7 S) (d:Nat) {C:Prop}
  (K:∀H',run P (d+6) 76 [.ref mi, .ref k, .ref H0.length] H= .ok (.bytes (f8 c S (D (dj c)))) H'->Wb H0 (A0 c w S (D (dj c))) H'->C):C:=by
 have g0:=hb.gr
 refine aZ (pg (w:=w) (g0.at hm) (g0.at hs) (g0.at hd) hD e hS d) λH1 e1 g1=> ?_
 have rM:=g1.at hk
 have E6:=hb.more g1
 have pre:∀{o:cQ},aK P (run P (d+5)) (bx 1 K6) [some (.ref mi),some (.ref k),some (.ref H0.length),some (.int (cG S)),some (.bool (cY S)),some (.bytes (f0 S)),none] H1=o->aK P (run P (d+5)) K6 [some (.ref mi),some (.ref k),some (.ref H0.length),none,none,none,none] H=o:=λh=>
  ae (lu (vs:= [.int (cG S), .bool (cY S), .bytes (f0 S)]) (aw (q:= .fn 79) (v:= .ref mi) rfl (bO (g0.at hm)) (aa (v:= .int (cl w)) (hc▸gR hk rfl rfl) af) e1) rfl) h
 have eR:∀{rep:By} {ops:List SV} {H' :HP},f8 c S (D (dj c))=rep->A0 c w S (D (dj c))=ops->run P (d+6) 76 [.ref mi, .ref k, .ref H0.length] H= .ok (.bytes rep) H'->Wb H0 ops H'->C:=λh1 h2 e h=>K _ (h1▸e) (h2▸h)
 by_cases q1:c.number=cG S
 ·exact eR (if_pos q1) (if_pos q1) (aF rfl rfl (pre (aY (eZ (an (gR rM rfl rfl) rfl ((i5 _ _ _).trans (congrArg some (bf q1)))) (aY (bK rfl)))))) E6
 have UL:∀{o:cQ},aK P (run P (d+5)) (bx 2 K6) [some (.ref mi),some (.ref k),some (.ref H0.length),some (.int (cG S)),some (.bool (cY S)),some (.bytes (f0 S)),none] H1=o->aK P (run P (d+5)) K6 [some (.ref mi),some (.ref k),some (.ref H0.length),none,none,none,none] H=o:=λh=>
  pre (ae (cF (an (gR rM rfl rfl) rfl ((i5 _ _ _).trans (congrArg some (aR q1)))) aj) h)
 by_cases q2:c.number<cG S
 ·refine aZ (KM (H:=H1) (code:=3) (by decide) (by decide) d [some (.ref mi),some (.ref k),some (.ref H0.length),some (.int (cG S)),some (.bool (cY S)),some (.bytes (f0 S)),none]) λH2 e2 g2=> ?_
  exact eR ((if_neg q1).trans (if_pos q2)) ((if_neg q1).trans (if_pos q2)) (aF rfl rfl (UL (aY (eZ (an (gR rM rfl rfl) rfl (gv (bf q2))) (aY (bK e2)))))) (E6.more g2)
 have go2:∀{o:cQ},aK P (run P (d+5)) (bx 3 K6) [some (.ref mi),some (.ref k),some (.ref H0.length),some (.int (cG S)),some (.bool (cY S)),some (.bytes (f0 S)),none] H1=o->aK P (run P (d+5)) K6 [some (.ref mi),some (.ref k),some (.ref H0.length),none,none,none,none] H=o:=λh=>
  UL (ae (cF (an (gR rM rfl rfl) rfl (gv (aR q2))) aj) h)
 have nk:gK P (run P (d+5)) (.cmp .ne (.attr (.loc 1) 32) (.int 5)) [some (.ref mi),some (.ref k),some (.ref H0.length),some (.int (cG S)),some (.bool (cY S)),some (.bytes (f0 S)),none] H1= .ok (!decide (c.kind=5)) H1:=an (gR rM rfl rfl) rfl (k8 _ _ _)
 have no:gK P (run P (d+5)) (.not (.loc 4)) [some (.ref mi),some (.ref k),some (.ref H0.length),some (.int (cG S)),some (.bool (cY S)),some (.bytes (f0 S)),none] H1= .ok (!cY S) H1:=mx rfl
 have both:=Gz no λu8=>nk
 by_cases q3:(!cY S&& !decide (c.kind=5))=true
 ·rw [q3] at both
  refine aZ (KM (H:=H1) (code:=2) (by decide) (by decide) d [some (.ref mi),some (.ref k),some (.ref H0.length),some (.int (cG S)),some (.bool (cY S)),some (.bytes (f0 S)),none]) λH2 e2 g2=> ?_
  exact eR ((if_neg q1).trans ((if_neg q2).trans (if_pos q3))) ((if_neg q1).trans ((if_neg q2).trans (if_pos q3))) (aF rfl rfl (go2 (aY (eZ both (aY (bK e2)))))) (E6.more g2)
 rw [Bool.eq_false_iff.mpr q3] at both
 have rl:=pq (c:=c) (o:=D (dj c)) (n:=100) λb z=>cy (gU _ _) (hold b z)
 refine Au hm hs hd hD E6 rM ok Nm (λb z=>fM (hold b z) (by decide)) d λH2 e2 s2 k2=> ?_
 have fin2:=λ{H'}=>eR (H' :=H') ((if_neg q1).trans ((if_neg q2).trans (if_neg q3))) ((if_neg q1).trans ((if_neg q2).trans (if_neg q3)))
 generalize bF c (D (dj c))=rep at*
 have kn:=QJ E6 rM
 have MF:=k2 _ _ kn.1 kn.2 rM
 refine aZ (rB (op:= !decide (c.kind=6)) ok.n0 ok.n1 (fM rl (by decide)) (d+1) H2) λH3 e3 g3=> ?_
 refine aZ (kQ w (d+2) H3) λH4 e4 g4=> ?_
 have vl:=jz c.number
 obtain ⟨H5,e5,s5,k5⟩:=El (d:=d+2) (key:=dc w) (value:=yi c.number (!decide (c.kind=6)) rep) ((s2.more g3).more g4) (Kg w) (by
  unfold yi
  rw [aL,dq,dq]
  lia) Cm
 exact fin2 (aF rfl rfl (go2 (ae (cF both aj)
  (ae (bJ (aw (q:= .fn 77) (v:= .ref mi) rfl (bO (g1.at (g0.at hm))) (aa rfl (aa rfl af)) e2)) (ae (bJ (cz (aa (gR MF rfl rfl) (aa (fU (gR MF rfl rfl) rfl (k8 _ _ _)) (aa rfl af))) e3))
  (ae (bZ (aw rfl (po ((s2.more g3)) (f:=33) rfl (by decide) (by decide)) (aa (cz (aa (v:= .int (cl w)) (hc▸gR (g3.at MF) rfl rfl) af) e4) (aa rfl af)) e5)) (aY (bK rfl)))))))) s5
end
noncomputable def lm (term index kind:Int)(data:By):SO:= .inst 12 [(62, .int term),(28, .int index),(32, .int kind),(15, .bytes data)]
section
variable {H:HP}{e:Nat}{term index kind:Int}{data:By}{mi:Nat}
theorem MI (n:Int):0<(vb n).length:=by unfold vb;split<;>simp
theorem wx (c:iY)(t:By):¬((c.enc++t).length:Int)=0:=by
 have:=MI c.kind
 unfold iY.enc
 simp only [aL]
 lia
theorem sJ {R:au}(he:H[e]? =some (lm term index kind data))(hl:l[1]? =some (some (.ref e))):bj P R (.attr (.loc 1) 32) l H= .ok (.int kind) H:=aE (bc hl) he rfl
theorem oK {R:au}(he:H[e]? =some (lm term index kind data))(hl:l[1]? =some (some (.ref e))):bj P R (.attr (.loc 1) 15) l H= .ok (.bytes data) H:=aE (bc hl) he rfl
theorem rn (he:H[e]? =some (lm term index kind data))(h:kind=2∨data= [])(d:Nat):run P (d+1) 75 [.ref mi, .ref e] H= .ok .none H:=by
 refine aF rfl rfl (aY (eZ (fu ?_) (aY (bK rfl))))
 by_cases q:kind=2
 ·exact j0 (an (sJ he rfl) rfl ((i5 _ _ _).trans (congrArg some (bf q))))
 ·refine cZ (an (sJ he rfl) rfl ((i5 _ _ _).trans (congrArg some (aR q)))) ?_
  rcases h with h|h
  ·exact absurd h q
  ·subst h
   exact j0 (an (bq (aa (oK he rfl) af) rfl) rfl rfl)
theorem nB (he:H[e]? =some (lm term index kind data))(hk:kind≠2)(hd:¬(data.length:Int)=0){d:Nat}(h:gJ P (run P d) (.lH (.cons (.ret (.fS 62 (.cons (.attr (.loc 1) 15) .nil))) .nil) 7 .jR) [some (.ref mi),some (.ref e)] H=o)(ho:∀l H,o≠ .next l H):
  run P (d+1) 75 [.ref mi, .ref e] H=eR false o:=by
 rw [sQ rfl rfl]
 refine congrArg (eR false) (ae (cF (fu (cZ (an (sJ he rfl) rfl ((i5 _ _ _).trans (congrArg some (aR hk)))) (cZ (an (bq (aa (oK he rfl) af) rfl) rfl ((i5 _ _ _).trans (congrArg some (aR hd)))) fb))) aj) ?_)
 show (match gJ P (run P d) (.lH (.cons (.ret (.fS 62 (.cons (.attr (.loc 1) 15) .nil))) .nil) 7 .jR) [some (.ref mi),some (.ref e)] H with| .next l H=>aK P (run P d) .nil l H|o=>o)=o
 rw [h]
 cases o with
 |next l H=>exact absurd rfl (ho l H)
 |_=>rfl
theorem xO {c:iY}(he:H[e]? =some (lm term index kind c.enc))(hk:kind≠2)(ok:c.Ok)(h6:c.kind<=6)(d:Nat):∃H' k,run P (d+6) 75 [.ref mi, .ref e] H= .ok (.ref k) H' /\Gr H H' /\H'[k]? =some c.so:=by
 refine jX (Ib ok h6 d H) λH1 k e1 g1 h1=> ?_
 exact ⟨H1,k,nB he hk (by have:=wx c [];rwa [ch] at this) (PV (aY (bK (cz (aa (oK he rfl) af) e1)))) (λu8 u8 z=>nomatch z),g1,h1⟩
theorem ma (he:H[e]? =some (lm term index kind data))(hk:kind≠2)(hd:¬(data.length:Int)=0){d:Nat}(e1:run P (d+5) 62 [.bytes data] H= .exc 7 H'):run P (d+6) 75 [.ref mi, .ref e] H= .ok .none H' :=
 nB he hk hd (uN (vI (QF (cz (aa (oK he rfl) af) e1))) rfl) (λu8 u8 z=>nomatch z)
end
noncomputable def fy (index term:Int)(aP:By):By:=vb index++(vb term++(aP.length:Int)::aP)
theorem oM {mi:Nat}{index term:Int}(hm:H0[mi]? =some mo)(hb:Wb H0 fp H)(hr:fp.length<100)(i0:0<=index)(i1:index<16384)(t0:0<=term)(t1:term<16384)(hc:aP.length<100)(d:Nat):
  ∃H',run P (d+4) 72 [.ref mi, .ref H0.length, .int index, .int term, .bytes aP] H= .ok .none H' /\Wb H0 (fp++ [y4 1 [97] (fy index term aP)]) H' :=by
 have v1:=jz index
 have v2:=jz term
 refine aZ (tJ (d+2) [some (.ref mi),some (.ref H0.length),some (.int index),some (.int term),some (.bytes aP),none] H) λH1 e1 s1=> ?_
 refine aZ (gn (d:=d) s1 i0 i1 (by decide)) λH2 e2 s2=> ?_
 obtain ⟨H3,e3,s3⟩:=gn (d:=d) s2 t0 t1 (by simp only [aL,List.length_nil,big];lia)
 obtain ⟨H4,e4,s4⟩:=hW (d:=d+1) (b:=aP) s3 (by exact lB ‹_› rfl) (by simp only [aL,List.length_nil,big];lia)
 have e5:=oJ (d:=d+2) s4
 rw [show ([]++vb index++vb term++(aP.length:Int)::aP)=fy index term aP from bX ..] at e5
 obtain ⟨H5,e6,s6,_⟩:=El (d:=d) (key:= [97]) (value:=fy index term aP) (hb.more s4.gr) (by decide) (by
  unfold fy
  rw [aL,aL,dq]
  lia) (dR hr (by decide))
 exact ⟨H5,bW rfl rfl (ae (bJ e1) (ae (bZ (aw rfl (fC s1 64) (aa rfl af) e2)) (ae (bZ (aw rfl (fC s2 64) (aa rfl af) e3)) (ae (bZ (aw rfl (fC s3 37) (aa rfl af) e4))
  (ae (bZ (aw rfl (po (hb.more s4.gr) (f:=33) rfl (by decide) (by decide)) (aa rfl (aa (aw (R:=run P (d+3)) rfl (fC s4 19) af e5) af)) e6)) aj))))),s6⟩
inductive Op where
 |put (k v:By)|del (k:By)
noncomputable def Op.sv:Op->SV
 | .put k v=>y4 1 k v
 | .del k=>y4 0 k []
noncomputable def Op.do (D:By->Option By):Op->By->Option By
 | .put k v=>λx=>if x=k then some v else D x
 | .del k=>λx=>if x=k then none else D x
noncomputable def eU:List Op->(By->Option By)->By->Option By
 | [],D=>D
 |o::r,D=>eU r (o.do D)
noncomputable def Op.tag:Op->Int
 | .put .. =>1
 | .del _=>0
noncomputable def Op.val:Op->By
 | .put _ v=>v
 | .del _=> []
noncomputable def Op.key:Op->By
 | .put k _=>k
 | .del k=>k
section
variable {R:au}{l:cR}{H H1 H2 H3:HP}{e e1:SE}{a i:SE}{v x y:SV}
theorem tS (h:bj P R e l H= .ok v H1)(h2:bj P R e1 l H1= .ok x H2)(h3:bj P R e2 l H2= .ok y H3)(h4:jO x y v H3=some H4):gJ P R (.j4 (.sub e1 e2) e) l H= .next l H4:=by
 show (bj P R e l H).then l _=_
 rw [h]
 show (bj P R e1 l H1).then l _=_
 rw [h2]
 show (bj P R e2 l H2).then l _=_
 rw [h3]
 show (match jO x y v H3 with|some H=>cQ.next l H|none=> .bad)=_
 rw [h4]
theorem Px (h2:bj P R e l H= .ok x H1)(h3:bj P R e1 l H1= .ok y H2)(h4:iw x y H2=some H3):gJ P R (.del e e1) l H= .next l H3:=by
 show (bj P R e l H).then l _=_
 rw [h2]
 show (bj P R e1 l H1).then l _=_
 rw [h3]
 show (match iw x y H2 with|some H=>cQ.next l H|none=> .bad)=_
 rw [h4]
end
theorem eM {H:HP}{i j:Nat}{o:SO}(h:i≠j):(H.set i o)[j]? =H[j]? :=List.getElem?_set_ne h
theorem eB {H:HP}{i:Nat}{o x:SO}(h:H[i]? =some x):(H.set i o)[i]? =some o:=List.getElem?_set_self (gw h).1
noncomputable def Kx (X:List Nat)(H H' :HP):Prop:=∀i o,i∉X->H[i]? =some o->H'[i]? =some o
theorem Kx.refl {X:List Nat}:Kx X H H:=λu8 u8 u8 e=>e
theorem Kx.trans {X:List Nat}{H H1 H2:HP}(a:Kx X H H1)(b:Kx X H1 H2):Kx X H H2:=λi o h e=>b i o h (a i o h e)
theorem Gr.kx {X:List Nat}(a:Gr H H1):Kx X H H1:=λi o u8 e=>a.at e
theorem qr {X:List Nat}{H:HP}{i:Nat}(h:i∈X):Kx X H (H.set i o):=λj o' hj e=>(eM (λ(q:i=j)=>hj (by rw [<-q];exact h))).trans e
theorem AB {i a:Nat}(h:i≠a):i∉ [a]:=λq=>h (eF q)
theorem wz {i a b c:Nat}(h:i≠a)(h2:i≠b)(h3:i≠c):i∉ [a,b,c]:=λq=>(cH q).elim h λq=>(cH q).elim h2 (AB h3)
noncomputable def tg:SO->Nat:=SO.rec (λu8=>100) 101 (λu8=>102) (λu8=>103) (λu8=>104) (λc u8=>c)
theorem fJ (h:Nat.beq (tg a) (tg b)=false):a≠b:=λe=>by subst e;rw [Nat.beq_refl] at h;exact B6 h
theorem cV {H:HP}{i j:Nat}(h:H[i]? =some a)(h2:H[j]? =some b)(n:a≠b):i≠j:=λe=>n (cq (h.symm.trans (e▸h2)))
section
variable {D:By->Option By}{U:List By}{so:SO}(h:dU U so D)
include h
theorem eD {c:Nat}:so≠ .inst c fs:=λe=>by
 obtain ⟨es,q|⟨q,_⟩,_⟩:=h.ex<;>(rw [e] at q;cases q)
theorem mX:so≠ .list vs:=λe=>by
 obtain ⟨es,q|⟨q,_⟩,_⟩:=h.ex<;>(rw [e] at q;cases q)
end
theorem pG {r:Nat}{k v:SV}(hr:H[r]? =some so)(h:ut k v so=some fk):jO (.ref r) k v H=some (H.set r fk):=by
 show (match H[r]? with|some d=>(match ut k v d with|some d=>some (H.set r d)|none=>none)|none=>none)=_
 rw [hr]
 dsimp only
 rw [h]
theorem xc {r:Nat}(hr:H[r]? =some so)(h:y9 k so=some fk):iw (.ref r) k H=some (H.set r fk):=by
 show (match H[r]? with|some d=>(match y9 k d with|some d=>some (H.set r d)|none=>none)|none=>none)=_
 rw [hr]
 dsimp only
 rw [h]
theorem Op.NF (o:Op):o.sv=y4 o.tag o.key o.val:=by cases o<;>rfl
noncomputable def Kw:cA:= .cons (.ifs (.cmp .eq (.loc 2) (.int 1)) (.cons (.j4 (.sub (.attr (.loc 0) 40) (.loc 3)) (.loc 4)) .nil) (.cons (.ifs (.cmp .isIn (.loc 3) (.attr (.loc 0) 40)) (.cons (.del (.attr (.loc 0) 40) (.loc 3)) .nil) .nil) .nil)) .nil
set_option tactic.hygienic true in
theorem Gn (h:D k=none):(Op.del k).do D=D:=by
 funext x
 show (if x=k then none else D x)=D x
 split
 ·rename_i q;rw [q,h]
 ·rfl
theorem NI {di:Nat}{k:By}(hd:H[di]? =some so)(hD:dy so D):bV .isIn (.bytes k) (.ref di) H=some (D k).isSome:=by
 show (match H[di]? with|some o=>(iq (.bytes k) o).map (λz=>Option.isSome z)|none=>none)=_
 rw [hd]
 dsimp only
 rw [oW hD]
 cases D k<;>rfl
theorem EE {H:HP}{si di bi:Nat}{aU aW:Int}(o:Op)(hk:o.key∈U5)(hs:H[si]? =some (bH di bi aU aW))(hd:H[di]? =some so)(hD:dy so D)(R:au)(l:cR)(h0:l[0]? =some (some (.ref si)))
  (h2:l[2]? =some (some (.int o.tag))) (h3:l[3]? =some (some (.bytes o.key))) (h4:l[4]? =some (some (.bytes o.val))) {C:Prop}
  (K:∀H' fk,aK P R Kw l H= .next l H'->H'[di]? =some fk->dy fk (o.do D)->Kx [di] H H'->C):C:=by
 have hn:bj P R (.attr (.loc 0) 40) l H= .ok (.ref di) H:=aE (bc h0) hs rfl
 cases o with
 |put k v=>
  refine aZ (xU (k:=k) (b:=v) hD hk (by decide)) λfk e1 d1=> ?_
  exact K (H.set di fk) fk (ae (eZ (an (bc h2) rfl rfl) (ae (tS (bc h4) hn (bc h3) (pG hd e1)) aj)) aj) (eB hd) d1 (qr (.head _))
 |del k=>
  have yM:=NI (k:=k) hd hD
  cases HJ:D k with
  |none=>
   rw [HJ] at yM
   exact K H so (ae (cF (an (bc h2) rfl rfl) (ae (cF (an (bc h3) hn yM) aj) aj)) aj) hd ((Gn HJ).symm▸hD) Kx.refl
  |some b=>
   rw [HJ] at yM
   refine aZ (yj hD HJ) λfk e1 d1=> ?_
   exact K (H.set di fk) fk (ae (cF (an (bc h2) rfl rfl) (ae (eZ (an (bc h3) hn yM) (ae (Px hn (bc h3) (xc hd e1)) aj)) aj)) aj) (eB hd) d1 (qr (.head _))
theorem cU {r k:Nat}(h:H[r]? =some (.list vs)):cu (.ref r) k H=some vs[k]? :=by
 show (match H[r]? with|some (.list vs)=>some vs[k]? |_=>none)=_
 rw [h]
theorem d0 {r:Nat}(h:H[r]? =some (.list vs)):fa (.ref r) H=vs.length:=by
 show (match H[r]? with|some (.list vs)=>vs.length|_=>0)=_
 rw [h]
theorem vL {α:Type}{f:α->SV}{a b:List α}{x:α}:((a++x::b).map f)[a.length]? =some (f x):=by
 rw [eJ,eG (Nat.le_of_eq (bI _)),bI,Nat.sub_self];rfl
theorem sz {α:Type}{f:α->SV}{a:List α}:((a++ []).map f)[a.length]? =none:=by
 rw [ch,List.getElem?_eq_none (Nat.le_of_eq (bI _))]
noncomputable def Rv (si r:Nat)(f:Nat->Option SV):cR:= [some (.ref si),some (.ref r),f 2,f 3,f 4]
noncomputable def UE (a b c:SV):Nat->Option SV
 |2=>some a
 |3=>some b
 |_=>some c
theorem Dh {si di bi r:Nat}{aU aW:Int}(R:au){C:Prop}(cS:List Op):∀(done:List Op) (H:HP) (so:SO) (D:By->Option By) (f:Nat->Option SV),(∀o∈cS,o.key∈U5)->H[r]? =some (.list ((done++cS).map Op.sv))->H[si]? =some (bH di bi aU aW)->H[di]? =some so->dy so D->
  (∀H' f' fk,forLoop [2,3,4] (λl H=>aK P R Kw l H) (.ref r) (cS.length+1) done.length (Rv si r f) H= .next (Rv si r f') H'->H'[di]? =some fk->dy fk (eU cS D)->Kx [di] H H'->C)->C:=by
 induction cS with
 |nil=>
  intro done H so D f hk hr hs hd hD K
  exact K H f so (ju ((cU hr).trans (congrArg some sz))) hd hD Kx.refl
 |cons o t ih=>
  intro done H so D f hk hr hs hd hD K
  have hit:=(cU (k:=done.length) hr).trans (congrArg some vL)
  rw [Op.NF] at hit
  refine EE o (hk o (.head _)) hs hd hD R (Rv si r (UE (.int o.tag) (.bytes o.key) (.bytes o.val))) rfl rfl rfl rfl λH1 Ma b1 b2 b3 b4=> ?_
  have F3:=b4 _ _ (AB (cV hr hd (Ne.symm (mX hD)))) hr
  rw [show done++o::t=(done++ [o])++t from (bX done [o] t).symm] at F3
  refine ih (done++ [o]) H1 Ma (o.do D) (UE (.int o.tag) (.bytes o.key) (.bytes o.val)) (λp hp=>hk p (.tail _ hp)) F3 (b4 _ _ (AB (cV hs hd (Ne.symm (eD hD)))) hs) b2 b3 λH2 f2 Hv c1 c4 c5 c6=> ?_
  rw [aL] at c1
  exact K H2 f2 Hv (fq hit rfl b1 c1) c4 c5 (b4.trans c6)
theorem u3 {si di bi i:Nat}{aU aW:Int}(h:H[si]? =some (bH di bi aU aW))(hf:P.field 16 i=true)(e:kH i v [(40, .ref di),(6, .ref bi),(30, .int aU),(33, .int aW)]=fs):bD P (.ref si) i v H=some (H.set si (.inst 16 fs)):=by
 unfold bD
 dsimp only
 rw [h]
 exact (if_pos ⟨hf,show 4<100 by decide⟩).trans (congrArg (λz=>some (H.set si (.inst 16 z))) e)
theorem K4 {H:HP}{si di bi r:Nat}{aU aW:Int}{ops:List Op}{bl:List SV}(hk:∀o∈ops,o.key∈U5)(hr:H[r]? =some (.list (ops.map Op.sv)))(hs:H[si]? =some (bH di bi aU aW))(hd:H[di]? =some so)(hD:dy so D)(hb:H[bi]? =some (.list bl))(hl:bl.length<1000)(Ro:r≠bi)(d:Nat){C:Prop}
  (K:∀H' fk,run P (d+1) 87 [.ref si, .ref r] H= .ok .none H'->H'[si]? =some (bH di bi aU (aW+ops.length))->H'[di]? =some fk->dy fk (eU ops D)->H'[bi]? =some (.list (bl++ [.ref r]))->Kx [si,di,bi] H H'->C):C:=by
 have Vp:=cV hs hd (Ne.symm (eD hD))
 have Ra:=cV hb hd (Ne.symm (mX hD))
 have Us:si≠bi:=cV hs hb (fJ rfl)
 refine Dh (run P d) ops [] H so D (λu8=>none) hk hr hs hd hD λH1 f1 Ma a1 a4 a5 a6=> ?_
 have NY:=a6 _ _ (AB Vp) hs
 have E6:=a6 _ _ (AB Ra) hb
 have e2:=jT (R:=run P d) (v:= .ref r) E6 (dR hl (by decide))
 have L5:=(eM (o:= .list (bl++ [.ref r])) (Ne.symm Us)).trans NY
 have YA:=(eM (o:= .list (bl++ [.ref r])) (Ne.symm Ro)).trans (a6 _ _ (AB (cV hr hd (Ne.symm (mX hD)))) hr)
 have hN:fa (.ref r) H=ops.length:=(d0 hr).trans (bI _)
 have hx:Kx [si,di,bi] H ((H1.set bi (.list (bl++ [.ref r]))).set si (bH di bi aU (aW+ops.length))):=λi o hi h=>
  (eM (Ne.symm (List.ne_of_not_mem_cons hi))).trans ((eM λq:bi=i=>hi (q▸ .tail _ (.tail _ (.head _)))).trans (a6 i o (λq=>hi (.tail _ (eF q▸ .head _))) h))
 have ha:eC (.ref si) 33 (H1.set bi (.list (bl++ [.ref r])))= .ok (.int aW) (H1.set bi (.list (bl++ [.ref r]))):=by
  unfold eC
  dsimp only
  rw [L5];rfl
 exact K _ Ma (bW rfl rfl (ae (f_ (v:= .ref r) rfl (by rw [hN];exact a1)) (ae (bZ (aw (aE rfl NY rfl) (bO E6) (aa rfl af) e2)) (ae (AH (a:=aW) (c:=ops.length) rfl ha (bq (aa rfl af) (by rw [ca YA,bI])) rfl (u3 L5 rfl rfl)) aj)))) (eB L5) ((eM Vp).trans ((eM Ra).trans a4)) a5 ((eM Us).trans (eB E6)) hx
section
variable {H:HP}{si di bi:Nat}{aU aW:Int}{so:SO}{D:By->Option By}{bl:List SV}
theorem FP (hs:H[si]? =some (bH di bi aU aW))(hb:H[bi]? =some (.list bl))(d:Nat):run P (d+1) 88 [.ref si] H= .ok .none (H.set si (bH di bi bl.length aW)):=
 bW rfl rfl (ae (bU (bq (aa (aE rfl hs rfl) af) (ca hb)) rfl (u3 hs rfl rfl)) aj)
theorem lQ (hs:H[si]? =some (bH di bi aU aW))(hb:H[bi]? =some (.list bl))(d:Nat):run P (d+1) 89 [.ref si] H= .ok (.bool (decide (aU=bl.length))) H:=
 aF rfl rfl (aY (bK (fU (aE rfl hs rfl) (bq (aa (aE rfl hs rfl) af) (ca hb)) rfl)))
theorem FD (hw:Wb H0 (ops.map Op.sv) H)(lF:ops≠ [])(hk:∀o∈ops,o.key∈U5)(hs:H[si]? =some (bH di bi aU aW))(hd:H[di]? =some so)(hD:dy so D)(hb:H[bi]? =some (.list bl))(hl:bl.length<1000)(d:Nat){C:Prop}
  (K:∀H' fk,run P (d+2) 86 [.ref si, .ref H0.length, .bool sync] H= .ok (.int (aW+ops.length)) H'->H'[si]? =some (bH di bi (bif sync then ((bl.length+1:Nat):Int) else aU) (aW+ops.length))->H'[di]? =some fk->dy fk (eU ops D)->H'[bi]? =some (.list (bl++ [.ref H.length]))->H'[H.length]? =some (.list (ops.map Op.sv))->Kx [si,di,bi] H H'->C):C:=by
 have g1:Gr H (H++ [.list (ops.map Op.sv)]):=⟨_,rfl⟩
 have QM:=(gw hs).1
 have xY:=(gw hb).1
 have Np:=(gw hd).1
 refine K4 (r:=H.length) hk (dW ..) (g1.at hs) (g1.at hd) hD (g1.at hb) hl (Nat.ne_of_gt xY) d λH2 Hv b1 b2 b3 b4 b5 b6=> ?_
 have b7:=b6 H.length _ (wz (Nat.ne_of_gt QM) (Nat.ne_of_gt Np) (Nat.ne_of_gt xY)) (dW ..)
 have hz:bV .eq (.int (ops.map Op.sv).length) (.int 0) H=some false:=(i5 _ _ _).trans (congrArg some (aR λz=>lF (List.eq_nil_of_length_eq_zero ((bI _).symm.trans (Int.ofNat.inj z)))))
 have pre:∀{o:cQ},aK P (run P (d+1)) (.cons (.ifs (.loc 2) (.cons (.expr (.eu (.loc 0) 58 .nil)) .nil) .nil) (.cons (.ret (.attr (.loc 0) 33)) .nil)) [some (.ref si),some (.ref H0.length),some (.bool sync)] H2=o->aK P (run P (d+1)) Vf [some (.ref si),some (.ref H0.length),some (.bool sync)] H=o:=λh=>
  ae (cF (an (aw (R:=run P (d+1)) rfl (po hw (f:=37) rfl (by decide) (by decide)) af (Gg (d:=d) hw)) rfl hz) aj) (ae (bZ (aw (q:= .fn 87) (v:= .ref si) rfl (bO hs) (aa (aw (R:=run P (d+1)) rfl (po hw (f:=40) rfl (by decide) (by decide)) af (Tr (d:=d) hw)) af) b1)) h)
 rcases Bool.eq_false_or_eq_true sync with q|q<;>subst q
 ·have e3:=FP b2 b5 d
  rw [aL] at e3
  have Vu:=eB (o:=bH di bi ((bl.length+ [SV.ref H.length].length:Nat):Int) (aW+ops.length)) b2
  exact K _ Hv (aF rfl rfl (pre (ae (eZ rfl (ae (bZ (aw (q:= .fn 88) rfl (bO b2) af e3)) aj)) (aY (bK (aE rfl Vu rfl)))))) Vu ((eM (cV hs hd (Ne.symm (eD hD)))).trans b3) b4 ((eM (cV hs hb (fJ rfl))).trans b5) ((eM (cW QM)).trans b7) ((g1.kx.trans b6).trans (qr (.head _)))
 ·exact K H2 Hv (aF rfl rfl (pre (ae (cF rfl aj) (aY (bK (aE rfl b2 rfl)))))) b2 b3 b4 b5 b7 (g1.kx.trans b6)
end
noncomputable def iL (xs:List Int):List SV:=xs.map .int
theorem qy:∀(xs:List Int),bT (iL xs)=some xs
 | []=>rfl
 |x::r=>by
  show (match bT (iL r) with|some l=>some (x::l)|none=>none)=_
  rw [qy r]
theorem yW:∀{xs:List Int},xs.Pairwise (·< ·)->jK xs=xs
 | [],_=>rfl
 | [x],_=>rfl
 |x::y::r,h=>by
  rw [List.pairwise_cons] at h
  show w9 x (jK (y::r))=_
  rw [yW h.2]
  exact if_pos (h.1 y (.head _))
theorem Bu {R:au}{i k:Nat}(h:l[i]? =some (some (.ref k)))(hl:H[k]? =some (.list vs)):gK P R (.loc i) l H= .ok (!vs.isEmpty) H:=by
 show (match l[i]? with|some (some v)=>fj (eO v H) H|_=> .bad)=_
 rw [h]
 show fj (match H[k]? with|some (.list vs)=>some (!vs.isEmpty)|_=>none) H=_
 rw [hl];rfl
theorem en {k:Nat}(hl:H[k]? =some (.list (vs++ [v]))):dH (.ref k) (.int (-1)) H= .ok v H:=by
 unfold dH
 dsimp only
 rw [hl]
 dsimp only
 have h1:cP (-1) (vs++ [v]).length=true:=by
  unfold cP
  rw [aL,List.length_singleton,bf (by lia),bf (by lia)];rfl
 have h2:cw (-1) (vs++ [v]).length=vs.length:=by
  unfold cw
  rw [if_neg (by decide),aL,List.length_singleton]
  lia
 rw [h1,h2,eG (bS _),Nat.sub_self];rfl
noncomputable def PP:cA:= .cons (.ifs (.or (.cons (.not (.loc 1)) (.cons (.cmp .ne (.sub (.loc 1) (.neg (.int 1))) (.loc 2)) .nil))) (.cons (.expr (.eu (.loc 1) 1 (.cons (.loc 2) .nil))) .nil) .nil) .nil
theorem JC {R:au}{o:Nat}{x:Int}(h1:l[1]? =some (some (.ref o)))(h2:l[2]? =some (some (.int x)))(ho:H[o]? =some (.list (iL done)))(hx:∀y∈done,y<x)(hl:done.length<100):aK P R PP l H= .next l (H.set o (.list (iL (done++ [x])))):=by
 have e2:=jT (R:=R) (v:= .int x) ho (by show (iL done).length<4096;unfold iL;rw [bI];exact lB ‹_› rfl)
 have e3:(iL done++ [.int x])=iL (done++ [x]):=by unfold iL;rw [eJ];rfl
 rw [e3] at e2
 refine ae (eZ (fu ?_) (ae (bZ (aw (bc h1) (bO ho) (aa (bc h2) af) e2)) aj)) aj
 rcases List.eq_nil_or_concat done with q|⟨ys,y,q⟩
 ·subst q
  exact j0 (mx (Bu h1 ho))
 ·have q' :done=ys++ [y]:=by rw [q];exact List.concat_eq_append ..
  subst q'
  have sK:H[o]? =some (.list (iL ys++ [.int y])):=by rw [ho];unfold iL;rw [eJ];rfl
  have UY:=hx y (by simp)
  refine cZ (mx (q:=true) ?_) (j0 (an (aN (bc h1) rfl (en sK)) (bc h2) ((k8 _ _ _).trans (congrArg some ?_))))
  ·have:=Bu (R:=R) h1 sK
   rw [this]
   cases iL ys<;>rfl
  ·rw [aR (by exact iN ‹_›)];rfl
theorem xG (R:au){H:HP}(hp:xs.Pairwise (·< ·))(hl:xs.length<64):∀(cS done:List Int) (x:Option SV),xs=done++cS->
  ∃l',forLoop [2] (λl H=>aK P R PP l H) (.ref (H.length+1)) (cS.length+1) done.length [some r,some (.ref H.length),x] (H++ .list (iL done):: .list (iL xs):: [])= .next l' (H++ .list (iL xs):: .list (iL xs):: [])/\l'[1]? =some (some (.ref H.length))
 | [],done,x,e=>by
  rw [ch] at e
  subst e
  refine ⟨_,ju ?_,rfl⟩
  rw [cU sb,List.getElem?_eq_none]
  unfold iL
  rw [bI];exact bS _
 |y::t,done,x,e=>by
  obtain ⟨l',h1,h2⟩:=xG R (H:=H) (r:=r) hp hl t (done++ [y]) (some (.int y)) (by rw [e,bX];rfl)
  rw [aL (as:=done)] at h1
  have hit:cu (.ref (H.length+1)) done.length (H++ .list (iL done):: .list (iL xs):: [])=some (some (.int y)):=by
   rw [cU sb,e]
   unfold iL
   rw [eJ,eG (by rw [bI];exact bS _),bI,Nat.sub_self]
   rfl
  have b1:=JC (R:=R) (l:= [some r,some (.ref H.length),some (.int y)]) (H:=H++ .list (iL done):: .list (iL xs):: []) (o:=H.length) (done:=done) (x:=y) rfl rfl nE (λz hz=>by
   rw [e,List.pairwise_append] at hp
   exact hp.2.2 z hz y (.head _)) (by
   rw [e,aL] at hl
   lia)
  rw [yb] at b1
  exact ⟨l',fq hit rfl b1 h1,h2⟩
theorem r5 {r:Nat}(hr:H[r]? =some (.list (iL xs)))(hp:xs.Pairwise (·< ·))(hl:xs.length<64)(d:Nat):∃H' k,run P (d+1) 43 [.ref r] H= .ok (.ref k) H' /\Gr H H' /\H'[k]? =some (.list (iL xs)):=by
 refine aZ (xG (run P d) (H:=H) (r:= .ref r) hp hl xs [] none rfl) λl' h1 h2=> ?_
 have g:Gr H (H++ [SO.list []]):=⟨_,rfl⟩
 have hs:Mine.bG Bi.sorted [.ref r] (H++ [SO.list []])= .ok (.ref (H.length+1)) (H++ .list (iL []):: .list (iL xs):: []):=by
  show (match (H++ [SO.list []])[r]? with
   |some (.list vs)=>(match bT vs with
    |some l=>if l.length<64 then dz.ok (SV.ref (H++ [SO.list []]).length) ((H++ [SO.list []])++ [SO.list ((jK l).map SV.int)]) else .bad
    |none=> .bad)
   |some (.cg es)=>if es.length<64 then .ok (.ref (H++ [SO.list []]).length) ((H++ [SO.list []])++ [SO.list ((jv (es.map λz:By×SV=>z.1)).map SV.bytes)]) else .bad
   |some .aM=> .ok (.ref (H++ [SO.list []]).length) ((H++ [SO.list []])++ [SO.list []])
   |_=> .bad)=_
  rw [g.at hr]
  dsimp only
  rw [qy]
  dsimp only
  rw [if_pos hl,yW hp,aL,ng];rfl
 have hN:fa (.ref (H.length+1)) (H++ .list (iL []):: .list (iL xs):: [])=xs.length:=by
  show (match (H++SO.list (iL [])::SO.list (iL xs):: [])[H.length+1]? with|some (.list vs)=>vs.length|_=>0)=_
  rw [sb]
  exact bI _
 exact ⟨_,H.length,aF rfl rfl (ae (bJ (bE af)) (ae (f_ (v:= .ref (H.length+1)) (bq (aa rfl af) hs) (by rw [hN];exact h1)) (aY (bK (bc h2))))),⟨_,rfl⟩,nE⟩
noncomputable def fN (m:Nat):List Int:=(List.range m).map λ(k:Nat)=>((k:Int)+1:Int)
noncomputable def OG (v a b c:Nat):SO:= .inst 13 [(65, .ref v),(34, .ref a),(44, .ref b),(35, .ref c),(5, .bool false)]
structure d8 (H:HP)(k:Nat)(xs:List Int):Prop where
 ex:∃v a b c,H[k]? =some (OG v a b c)/\H[v]? =some (.list (iL xs))/\H[a]? =some (.list (iL []))/\H[b]? =some (.list (iL []))/\H[c]? =some (.list (iL []))
theorem d8.gr {k:Nat}(h:d8 H k xs)(g:Gr H H'):d8 H' k xs:=by
 refine Bg h.ex λv a b c h1 h2 h3 h4 h5=> ?_
 exact ⟨v,a,b,c,g.at h1,g.at h2,g.at h3,g.at h4,g.at h5⟩
theorem zP {c i:Nat}{fs fs' :List (Nat×SV)}(hf:P.field c i=true)(hl:fs.length<100)(e:kH i v fs=fs'):bD P (.ref H.length) i v (H++ .inst c fs::G)=some (H++ .inst c fs' ::G):=e▸sM hf hl
theorem za {H:HP}{r1 r2 r3 r4:Nat}(h1:H[r1]? =some (.list (iL xs)))(h2:H[r2]? =some (.list (iL [])))(h3:H[r3]? =some (.list (iL [])))(h4:H[r4]? =some (.list (iL [])))(hp:xs.Pairwise (·< ·))(hl:xs.length<64)(d:Nat):
  ∃H',run P (d+2) 50 [.ref H.length, .ref r1, .ref r2, .ref r3, .ref r4, .bool false] (H++ [.inst 13 []])= .ok .none H' /\Gr H H' /\d8 H' H.length xs:=by
 have g0:Gr H (H++SO.inst 13 []:: []):=⟨_,rfl⟩
 obtain ⟨H1,k1,e1,⟨G1,q1⟩,m1⟩:=r5 (g0.at h1) hp hl d
 rw [ng] at q1
 subst q1
 have g1:Gr H (H++SO.inst 13 [(65, .ref k1)]::([]++G1)):=⟨_,rfl⟩
 obtain ⟨H2,k2,e2,⟨G2,q2⟩,m2⟩:=r5 (g1.at h2) .nil (by decide) d
 rw [ng] at q2
 subst q2
 have g2:Gr H (H++SO.inst 13 [(65, .ref k1),(34, .ref k2)]::([]++G1++G2)):=⟨_,rfl⟩
 obtain ⟨H3,k3,e3,⟨G3,q3⟩,m3⟩:=r5 (g2.at h3) .nil (by decide) d
 rw [ng] at q3
 subst q3
 have g3:Gr H (H++SO.inst 13 [(65, .ref k1),(34, .ref k2),(44, .ref k3)]::([]++G1++G2++G3)):=⟨_,rfl⟩
 obtain ⟨H4,k4,e4,⟨G4,q4⟩,m4⟩:=r5 (g3.at h4) .nil (by decide) d
 rw [ng] at q4
 subst q4
 have mv:∀{k:Nat} {fs fs' :List (Nat×SV)} {G G' :HP} {vs:List SV},(H++ .inst 13 fs::G)[k]? =some (.list vs)->(H++ .inst 13 fs' ::(G++G'))[k]? =some (.list vs):=λ{k fs fs' G G' vs} h=>by
  rcases Nat.lt_or_ge k H.length with q|q
  ·rw [iM q] at h⊢;exact h
  ·rw [eG q] at h⊢
   cases j:k - H.length with
   |zero=>rw [j] at h;cases h
   |succ j' =>
    rw [j] at h
    rw [List.getElem?_cons_succ] at h⊢
    rw [iM (gw h).1];exact h
 have WJ:∀{k:Nat} {fs fs' :List (Nat×SV)} {G:HP} {vs:List SV},(H++ .inst 13 fs::G)[k]? =some (.list vs)->(H++ .inst 13 fs' ::G)[k]? =some (.list vs):=λ{k fs fs' G vs} h=>by
  have:=mv (fs' :=fs') (G' := []) h
  rwa [ch] at this
 refine ⟨_,bW rfl rfl (ae (bU (cz (aa rfl af) e1) rfl (zP (fs' := [(65, .ref k1)]) rfl (show 0<100 by decide) rfl)) (ae (bU (cz (aa rfl af) e2) rfl (zP (fs' := [(65, .ref k1),(34, .ref k2)]) rfl (show 1<100 by decide) rfl))
  (ae (bU (cz (aa rfl af) e3) rfl (zP (fs' := [(65, .ref k1),(34, .ref k2),(44, .ref k3)]) rfl (show 2<100 by decide) rfl)) (ae (bU (cz (aa rfl af) e4) rfl (zP (fs' := [(65, .ref k1),(34, .ref k2),(44, .ref k3),(35, .ref k4)]) rfl (show 3<100 by decide) rfl))
  (ae (bU rfl rfl (zP (fs' := [(65, .ref k1),(34, .ref k2),(44, .ref k3),(35, .ref k4),(5, .bool false)]) rfl (show 4<100 by decide) rfl)) aj))))),⟨_,rfl⟩,k1,k2,k3,k4,nE, ?_, ?_, ?_, ?_⟩
 ·exact mv (G' :=G4) (mv (G' :=G3) (fs' := []) (mv (G' :=G2) (fs' := []) m1))
 ·exact mv (G' :=G4) (mv (G' :=G3) (fs' := []) m2)
 ·exact mv (G' :=G4) m3
 ·exact WJ m4
noncomputable def jd (xs:List Int):By:=(xs.length:Int)::xs
noncomputable def dC (xs:List Int):By:=jd xs++ [0,0,0,0]
noncomputable def Tw:cA:= .cons (.expr (.eu (.loc 0) 64 (.cons (.loc 2) .nil))) .nil
theorem yk {n:Int}(h:n<128):vb n= [n]:=if_pos h
theorem yr {r:Nat}(hx:∀x∈xs,0<=x/\x<128)(hr:H0[r]? =some (.list (iL xs)))(d:Nat):∀(cS done:List Int) (H:HP) (bs:By) (z:Option SV),xs=done++cS->Sk H0 bs H->bs.length+3*cS.length+10<=big->
  ∃H' l',forLoop [2] (λl H=>aK P (run P (d+3)) Tw l H) (.ref r) (cS.length+1) done.length [some (.ref H0.length),some (.ref r),z] H= .next l' H' /\Sk H0 (bs++cS) H'
 | [],done,H,bs,z,e,s,hl=>by
  rw [ch] at e
  subst e
  refine ⟨H,_,ju ?_,by rw [ch];exact s⟩
  rw [cU (s.gr.at hr),List.getElem?_eq_none]
  unfold iL
  rw [bI];exact bS _
 |y::t,done,H,bs,z,e,s,hl=>by
  obtain ⟨y0,y1⟩:=hx y (by rw [e];simp)
  rw [dq] at hl
  refine aZ (gn (d:=d) s y0 (Int.lt_trans y1 (by decide)) (by lia)) λH1 e1 s1=> ?_
  rw [yk y1] at s1
  obtain ⟨H2,l2,c1,c2⟩:=yr hx hr d t (done++ [y]) H1 (bs++ [y]) (some (.int y)) (by rw [e,bX];rfl) s1 (by rw [aL,List.length_singleton];lia)
  rw [aL (as:=done)] at c1
  have hit:cu (.ref r) done.length H=some (some (.int y)):=by
   rw [cU (s.gr.at hr),e]
   unfold iL
   rw [eJ,eG (by rw [bI];exact bS _),bI,Nat.sub_self]
   rfl
  refine ⟨H2,l2,fq hit rfl (ae (bZ (aw rfl (fC s 64) (aa rfl af) e1)) aj) c1, ?_⟩
  rw [bX] at c2;exact c2
theorem oI {r:Nat}(hx:∀x∈xs,0<=x/\x<128)(hl:xs.length<100)(hb:bs.length<=1000)(hr:H0[r]? =some (.list (iL xs)))(s:Sk H0 bs H)(d:Nat):∃H',run P (d+4) 53 [.ref H0.length, .ref r] H= .ok .none H' /\Sk H0 (bs++jd xs) H' :=by
 obtain ⟨H1,e1,s1⟩:=gn (n:=xs.length) (d:=d) s (fw _) (by exact iF ‹_› rfl) (by show bs.length+2<=4096;lia)
 rw [yk (show (xs.length:Int)<128 by exact iF ‹_› rfl)] at s1
 obtain ⟨H2,l2,c1,c2⟩:=yr hx hr d xs [] H1 (bs++ [(xs.length:Int)]) none rfl s1 (by rw [aL,List.length_singleton];show _<=4096;lia)
 have wO:=ca (s.gr.at hr)
 rw [show (iL xs).length=xs.length from bI _] at wO
 have hN:fa (.ref r) H1=xs.length:=by
  show (match H1[r]? with|some (.list vs)=>vs.length|_=>0)=_
  rw [s1.gr.at hr]
  exact bI _
 refine ⟨H2,bW rfl rfl (ae (bZ (aw rfl (fC s 64) (aa (bq (aa rfl af) wO) af) e1)) (ae (f_ (v:= .ref r) rfl (by rw [hN];exact c1)) aj)), ?_⟩
 rw [bX] at c2;exact c2
theorem px {k:Nat}(h:d8 H k xs)(hx:∀x∈xs,0<=x/\x<128)(hl:xs.length<100)(d:Nat):∃H',run P (d+5) 55 [.ref k] H= .ok (.bytes (dC xs)) H' /\Gr H H' :=by
 refine Bg h.ex λv a b c h1 h2 h3 h4 h5=> ?_
 refine aZ (tJ (d+3) [some (.ref k),none] H) λH1 e1 s1=> ?_
 refine aZ (oI hx hl (by decide) h2 s1 d) λH2 e2 s2=> ?_
 have n0:∀x∈([]:List Int),0<=x/\x<128:=λx z=>jZ z
 have l2:(([]:By)++jd xs).length<=200:=by show xs.length+1<=200;lia
 refine aZ (oI n0 (by decide) (by exact lA ‹_› rfl) h3 s2 d) λH3 e3 s3=> ?_
 have l3:(([]:By)++jd xs++jd []).length<=300:=by rw [aL];show _+1<=300;lia
 refine aZ (oI n0 (by decide) (by exact lA ‹_› rfl) h4 s3 d) λH4 e4 s4=> ?_
 have l4:(([]:By)++jd xs++jd []++jd []).length<=400:=by rw [aL];show _+1<=400;lia
 refine aZ (oI n0 (by decide) (by exact lA ‹_› rfl) h5 s4 d) λH5 e5 s5=> ?_
 have l5:(([]:By)++jd xs++jd []++jd []++jd []).length<=500:=by rw [aL];show _+1<=500;lia
 obtain ⟨H6,e6,s6⟩:=rS (d:=d+3) (b:=false) s5 (by show _<4096;exact lC ‹_› rfl)
 have e7:=oJ (d:=d+3) s6
 rw [show (([]:By)++jd xs++jd []++jd []++jd []++ [if false=true then 1 else 0])=dC xs by unfold dC;simp [jd]] at e7
 have q0:∀{R:au} {l:cR} {H' :HP} {i:Nat} {u:SV},Gr H H'->l[0]? =some (some (.ref k))->fQ i [(65, .ref v),(34, .ref a),(44, .ref b),(35, .ref c),(5, .bool false)]=some u->bj P R (.attr (.loc 0) i) l H' = .ok u H' :=λg hl hv=>aE (bc hl) (g.at h1) hv
 exact ⟨H6,aF rfl rfl (ae (bJ e1) (ae (bZ (cz (aa rfl (aa (q0 s1.gr rfl rfl) af)) e2)) (ae (bZ (cz (aa rfl (aa (q0 s2.gr rfl rfl) af)) e3)) (ae (bZ (cz (aa rfl (aa (q0 s3.gr rfl rfl) af)) e4))
  (ae (bZ (cz (aa rfl (aa (q0 s4.gr rfl rfl) af)) e5)) (ae (bZ (aw rfl (fC s5 26) (aa (q0 s5.gr rfl rfl) af) e6)) (aY (bK (aw rfl (fC s6 19) af e7))))))))),s6.gr⟩
section
variable {H:HP}{si di bi mi:Nat}{aU aW applied term aO:Int}{aP:By}{sync:Bool}{so:SO}{D:By->Option By}{bl:List SV}
theorem lY {i:Nat}(h:H[mi]? =some (.inst 15 fs))(hf:P.field 15 i=true)(hl:fs.length<100)(e:kH i v fs=fs'):bD P (.ref mi) i v H=some (H.set mi (.inst 15 fs')):=by
 unfold bD
 dsimp only
 rw [h]
 dsimp only
 rw [if_pos ⟨hf,hl⟩,e]
theorem AF {mi si i:Nat}{a t dd:Int}(h:H[mi]? =some o)(hf:P.field 15 i=true)(e:kH i v [(57, .ref si),(2, .int a),(62, .int t),(11, .bytes c),(20, .int dd),(59, .bool b)]=fs):bD P (.ref mi) i v (H.set mi (aX si a t c dd b))=some (H.set mi (.inst 15 fs)):=
 have h2:(H.set mi (aX si a t c dd b))[mi]? =some (aX si a t c dd b):=eB h
 (lY h2 hf (show 6<100 by decide) e).trans (congrArg some (List.set_set ..))
theorem EM {mi si i:Nat}{a t dd:Int}(h:H[mi]? =some (aX si a t c dd b))(hf:P.field 15 i=true)(e:kH i v [(57, .ref si),(2, .int a),(62, .int t),(11, .bytes c),(20, .int dd),(59, .bool b)]=fs):bD P (.ref mi) i v H=some (H.set mi (.inst 15 fs)):=lY h hf (show 6<100 by decide) e
theorem pA (hm:H[mi]? =some (aX si applied term aP aO sync))(hs:H[si]? =some (bH di bi aU aW))(hb:H[bi]? =some (.list bl))(hk:aU=bl.length)(d:Nat):run P (d+2) 71 [.ref mi] H= .ok .none (H.set mi (aX si applied term aP applied sync)):=by
 have e1:=lQ hs hb d
 rw [bf hk] at e1
 exact bW rfl rfl (ae (eZ (A4 (k:= .fn 89) (v:= .ref si) (aE rfl hm rfl) (bO hs) af e1) (ae (bU (aE rfl hm rfl) rfl (lY hm rfl (show 6<100 by decide) rfl)) aj)) aj)
theorem QW (hm:H[mi]? =some (aX si applied term aP aO sync))(hs:H[si]? =some (bH di bi aU aW))(hb:H[bi]? =some (.list bl))(hk:aU≠bl.length)(d:Nat):run P (d+2) 71 [.ref mi] H= .ok .none H:=by
 have e1:=lQ hs hb d
 rw [aR hk] at e1
 exact bW rfl rfl (ae (cF (A4 (k:= .fn 89) (v:= .ref si) (aE rfl hm rfl) (bO hs) af e1) aj) aj)
theorem QK {k:By}(hk:k.length<=1000)(hm:H[mi]? =some (aX si applied term aP aO sync))(hs:H[si]? =some (bH di bi aU aW))(hd:H[di]? =some so)(hD:dy so D)(d:Nat):run P (d+2) 78 [.ref mi, .bytes k] H= .ok (ob (D (100::k))) H:=
 aF rfl rfl (aY (bK (aw (q:= .fn 90) (v:= .ref si) (aE rfl hm rfl) (bO hs) (aa (cz (aa rfl af) (uY hk d H)) af) (yv hs hd hD d))))
end
theorem KA {R:au}{n:Int}(h:bj P R e l H= .ok (.int n) H'):gJ P R (.expr e) l H= .next l H' :=by
 show (bj P R e l H).then l _=_
 rw [h];rfl
theorem qz {R:au}{i:Nat}(h:bj P R (.attr e i) l H= .ok (.bool q) H'):gK P R (.attr e i) l H= .ok q H' :=by
 show (bj P R (.attr e i) l H).bind _=_
 rw [h];rfl
theorem bP {H:HP}{m:Nat}{o:SO}{j:Nat}(h:j≠m)(hj:H[j]? =some x):(H.set m o)[j]? =some x:=(eM (Ne.symm h)).trans hj
theorem z0 {H H1 H2:HP}{mi si di bi:Nat}(g:Gr H H1)(k:Kx [si,di,bi] H1 H2):Kx [mi,si,di,bi] H (H2.set mi o):=λu8 u8 hj h=>bP (List.ne_of_not_mem_cons hj) (k _ _ (List.not_mem_of_not_mem_cons hj) (g.at h))
noncomputable def zj (ops:List Op)(i t:Int)(cb:By):List Op:=ops++ [Op.put [97] (fy i t cb)]
theorem mY {ops:List Op}{i t:Int}(h:∀o∈ops,o.key∈U5):∀o∈zj ops i t cb,o.key∈U5:=λo ho=>(gi ho).elim (h o) λq=>eF q▸ .head _
section
variable {H0 H:HP}{si di bi mi e:Nat}{aU aW applied term aO:Int}{aP:By}{so:SO}{D:By->Option By}{bl:List SV}{t i k:Int}{data:By}
theorem zE {ops:List Op}{cb:By}(hm:H0[mi]? =some (aX si applied term aP aO sync))(hs:H0[si]? =some (bH di bi aU aW))(hd:H0[di]? =some so)(hD:dy so D)(hb:H0[bi]? =some (.list bl))(he:H0[e]? =some (lm t i k data))
  (hw:Wb H0 (ops.map Op.sv) H) (hk:∀o∈ops,o.key∈U5) (hl:ops.length<50) (xY:bl.length<1000) (i0:0<=i) (i1:i<16384) (t0:0<=t) (t1:t<16384) (hc:cb.length<100) (d:Nat) {C:Prop}
  (K:∀H' fk r,aK P (run P (d+5)) (bx 7 HT) [some (.ref mi),some (.ref e),some cf,some (.bytes cb),some (.ref H0.length),some dh,some cmd] H= .ret dh H'->H'[mi]? =some (aX si i t cb (bif sync then i else aO) sync)->
   H'[si]? =some (bH di bi (bif sync then ((bl.length+1:Nat):Int) else aU) (aW+(ops.length+1)))->H'[di]? =some fk->dy fk (eU (zj ops i t cb) D)->H'[bi]? =some (.list (bl++ [.ref r]))->H'[r]? =some (.list ((zj ops i t cb).map Op.sv))->Kx [mi,si,di,bi] H0 H'->C):C:=by
 have g0:=hw.gr
 obtain ⟨H1,e1,s1⟩:=oM (index:=i) (term:=t) (aP:=cb) hm hw (by rw [bI];exact dR hl (by decide)) i0 i1 t0 t1 hc (d+1)
 have W5:Wb H0 ((zj ops i t cb).map Op.sv) H1:=(eJ (f:=Op.sv) (l₁:=ops) (l₂:= [Op.put [97] (fy i t cb)])).symm▸s1
 have g1:=s1.gr
 refine FD (sync:=sync) W5 (λz=>nomatch (List.append_eq_nil_iff.mp z).2) (mY hk) (g1.at hs) (g1.at hd) hD (g1.at hb) xY (d+3) λH2 Hv w1 w2 w3 w4 w5 w6 w7=> ?_
 have ml:=Nat.ne_of_gt (Nat.lt_of_lt_of_le (gw hm).1 g1.le)
 have Qt:mi∉ [si,di,bi]:=wz (cV hm hs (fJ rfl)) (cV hm hd (Ne.symm (eD hD))) (cV hm hb (fJ rfl))
 have XM:e∉ [si,di,bi]:=wz (cV he hs (fJ rfl)) (cV he hd (Ne.symm (eD hD))) (cV he hb (fJ rfl))
 have m4:e≠mi:=cV he hm (fJ rfl)
 have JV:=w7 mi _ Qt (g1.at hm)
 have Pu:=w7 e _ XM (g1.at he)
 have eA:((zj ops i t cb).length:Int)=ops.length+1:=congrArg Int.ofNat aL
 rw [eA] at w1 w2
 have off:∀{o:SO} {j:Nat} {x:SO},j≠mi->H2[j]? =some x->(H2.set mi o)[j]? =some x:=λhj hx=>bP hj hx
 have T1:si≠mi:=Ne.symm (List.ne_of_not_mem_cons Qt)
 have TV:bi≠mi:=cV hb hm (fJ rfl)
 have UN:di≠mi:=cV hd hm (eD hD)
 have f3:(H2.set mi (aX si i t cb aO sync))[mi]? =some (aX si i t cb aO sync):=eB JV
 have go:∀{H' :HP},gJ P (run P (d+5)) (cL (bx 12 HT)) [some (.ref mi),some (.ref e),some cf,some (.bytes cb),some (.ref H0.length),some dh,some cmd] (H2.set mi (aX si i t cb aO sync))= .next [some (.ref mi),some (.ref e),some cf,some (.bytes cb),some (.ref H0.length),some dh,some cmd] H'->
   aK P (run P (d+5)) (bx 7 HT) [some (.ref mi),some (.ref e),some cf,some (.bytes cb),some (.ref H0.length),some dh,some cmd] H= .ret dh H' :=λh=>
  ae (bZ (aw (q:= .fn 72) (v:= .ref mi) rfl (bO (g0.at hm)) (aa rfl (aa (aE rfl (g0.at he) rfl) (aa (aE rfl (g0.at he) rfl) (aa rfl af)))) e1)) (ae (KA (aw (q:= .fn 86) (v:= .ref si) (aE rfl (g1.at hm) rfl) (bO (g1.at hs)) (aa rfl (aa (aE rfl (g1.at hm) rfl) af)) w1))
   (ae (bU (aE rfl Pu rfl) rfl (EM JV rfl rfl)) (ae (bU (aE rfl (off m4 Pu) rfl) rfl (AF JV rfl rfl)) (ae (bU rfl rfl (AF JV rfl rfl)) (ae h (aY (bK rfl)))))))
 rcases Bool.eq_false_or_eq_true sync with q|q<;>subst q
 ·have f4:=pA (d:=d+3) f3 (off T1 w2) (off TV w5) (by rw [aL];rfl)
  rw [List.set_set] at f4
  exact K _ Hv H1.length (go (eZ (qz (aE rfl f3 rfl)) (ae (bZ (aw (q:= .fn 71) (v:= .ref mi) rfl (bO f3) af f4)) aj))) (eB JV) (off T1 w2) (off UN w3) w4 (off TV w5) (off ml w6) (z0 g1 w7)
 ·exact K _ Hv H1.length (go (cF (qz (aE rfl f3 rfl)) aj)) f3 (off T1 w2) (off UN w3) w4 (off TV w5) (off ml w6) (z0 g1 w7)
end
structure AS where
 now:By->Option By
 S:Bool->kX
 idx:Int
 term:Int
 aP:By
noncomputable def ff (s:Int×Bool×By):By:=yi s.1 s.2.1 s.2.2
noncomputable def fV (a:AS):By->Option By:=λk=>
 if k= [97] then some (fy a.idx a.term a.aP) else if k= [100] then a.now [] else if k= [100,107] then a.now [107] else
 if k=dc false then (a.S false).map ff else if k=dc true then (a.S true).map ff else none
noncomputable def dp (c:iY)(cx:Option By):Option (Option By):=
 if idle c then none else
 if c.kind=1 then some (some c.value) else
 if c.kind=2 then (match cx with
  |some _=>some none
  |none=>none) else
 if c.kind=3 then (if cx=c.expect then some (some c.value) else none) else
 match cx with
  |none=>some (some c.value)
  |some o=>some (some (o++c.value))
noncomputable def v8 (k:By):Option (Option By)->List Op
 |none=> []
 |some none=> [.del k]
 |some (some v)=> [.put k v]
theorem CF (c:iY)(cx:Option By):kY c cx=(v8 (dj c) (dp c cx)).map Op.sv:=by
 unfold kY dp
 split
 ·rfl
 split
 ·rfl
 split
 ·cases cx<;>rfl
 split
 ·split<;>rfl
 cases cx<;>rfl
noncomputable def ja (c:iY)(S:kX):Bool:= !(decide (c.number=cG S)||(decide (c.number<cG S)||(!cY S&& !decide (c.kind=5))))
noncomputable def pC (c:iY)(cx:Option By):Int×Bool×By:=(c.number, !decide (c.kind=6),bF c cx)
noncomputable def kS (c:iY)(w:Bool)(S:kX)(cx:Option By):List Op:=
 if ja c S then v8 (dj c) (dp c cx)++ [.put (dc w) (ff (pC c cx))] else []
theorem Ex (c:iY)(w:Bool)(S:kX)(cx:Option By):A0 c w S cx=(kS c w S cx).map Op.sv:=by
 unfold A0 kS ja
 by_cases h1:c.number=cG S
 ·rw [if_pos h1,bf h1];rfl
 rw [if_neg h1,aR h1]
 by_cases h2:c.number<cG S
 ·rw [if_pos h2,bf h2];rfl
 rw [if_neg h2,aR h2]
 by_cases h3:(!cY S&& !decide (c.kind=5))=true
 ·rw [if_pos h3,h3];rfl
 rw [if_neg h3,Bool.eq_false_iff.mpr h3,CF]
 show _=List.map Op.sv (v8 (dj c) (dp c cx)++ [.put (dc w) (ff (pC c cx))])
 rw [eJ]
 rfl
inductive rD where
 |no|cmd (c:iY) (w:Bool)
inductive gb (kind:Int)(data:By):rD->Prop where
 |idle (h:kind=2∨data= []):gb kind data .no
 |more (h:kind≠2) (c:iY) (ok:c.Ok) (x:Int) (e:data=c.enc++ [x]):gb kind data .no
 |Bo (h:kind≠2) (c:iY) (ok:c.Ok) (h6:6<c.kind) (e:data=c.enc):gb kind data .no
 |cmd (h:kind≠2) (c:iY) (w:Bool) (ok:c.Ok) (h6:c.kind<=6) (e:data=c.enc) (hc:c.d9=cl w) (hk:c.key= []∨c.key= [107]) (hv:c.value.length=1):gb kind data (.cmd c w)
noncomputable def jn (a:AS):rD->List Op
 | .no=> []
 | .cmd c w=>kS c w (a.S w) (a.now c.key)
noncomputable def lW (a:AS):rD->Option By
 | .no=>none
 | .cmd c w=>some (f8 c (a.S w) (a.now c.key))
noncomputable def MB (k:By)(v:Option (Option By))(f:By->Option By):By->Option By:=match v with
 |none=>f
 |some v=>λx=>if x=k then v else f x
noncomputable def yB (a:AS):rD->By->Option By
 | .no=>a.now
 | .cmd c w=>if ja c (a.S w) then MB c.key (dp c (a.now c.key)) a.now else a.now
noncomputable def NK (a:AS):rD->Bool->kX
 | .no=>a.S
 | .cmd c w=>if ja c (a.S w) then λx=>if x=w then some (pC c (a.now c.key)) else a.S x else a.S
noncomputable def GF (a:AS)(i t:Int)(cb:By)(wh:rD):AS:=⟨yB a wh,NK a wh,i,t,cb⟩
theorem kR:∀(xs ys:List Op) (D:By->Option By),eU (xs++ys) D=eU ys (eU xs D)
 | [],_,_=>rfl
 |o::r,ys,D=>kR r ys (o.do D)
theorem Bv (a:AS)(i t:Int)(cb:By):eU [Op.put [97] (fy i t cb)] (fV a)=fV {a with idx:=i,term:=t,aP:=cb}:=by
 funext k
 show (if k= [97] then some (fy i t cb) else fV a k)=_
 unfold fV
 by_cases h:k= [97]
 ·rw [if_pos h,if_pos h]
 ·rw [if_neg h,if_neg h,if_neg h]
theorem vQ (c:iY)(hk:c.key= []∨c.key= [107]):dj c= [100]/\c.key= []∨dj c= [100,107]/\c.key= [107]:=by
 unfold dj
 rcases hk with h|h<;>rw [h]
 ·exact .inl ⟨rfl,rfl⟩
 ·exact .inr ⟨rfl,rfl⟩
theorem Jv (a:AS)(c:iY)(hk:c.key= []∨c.key= [107])(v:Option (Option By)):eU (v8 (dj c) v) (fV a)=fV {a with now:=MB c.key v a.now}:=by
 have key:∀v:Option By,(λx=>if x=dj c then v else fV a x)=fV {a with now:=λx=>if x=c.key then v else a.now x}:=λv=>by
  funext k
  unfold fV
  rcases vQ c hk with ⟨h1,h2⟩|⟨h1,h2⟩
  ·rw [h1,h2]
   dsimp only
   by_cases q:k= [100]
   ·subst q
    rw [if_pos rfl,if_neg (by decide),if_pos rfl,if_pos rfl]
   ·rw [if_neg q,if_neg q,if_neg q,if_neg (show ¬([107]:By)= [] by decide)]
  ·rw [h1,h2]
   dsimp only
   by_cases q:k= [100,107]
   ·subst q
    rw [if_pos rfl,if_neg (by decide),if_neg (by decide),if_pos rfl,if_pos rfl]
   ·rw [if_neg q,if_neg q,if_neg q,if_neg (show ¬([]:By)= [107] by decide)]
 match v with
 |none=>rfl
 |some none=>exact key none
 |some (some v)=>exact key (some v)
theorem Mg (w:Bool):dc w≠ [97]/\dc w≠ [100]/\dc w≠ [100,107]:=by cases w<;>decide
theorem Ic:dc true≠dc false:=by decide
theorem jy (a:AS)(w:Bool):fV a (dc w)=(a.S w).map ff:=by
 unfold fV
 refine rm (Mg w) λh1 h2 h3=> ?_
 rw [if_neg h1,if_neg h2,if_neg h3]
 cases w
 ·rw [if_pos rfl]
 ·rw [if_neg Ic,if_pos rfl]
theorem CA (a:AS)(c:iY)(hk:c.key= []∨c.key= [107]):fV a (dj c)=a.now c.key:=by
 unfold fV
 rcases vQ c hk with ⟨h1,h2⟩|⟨h1,h2⟩<;>rw [h1,h2]
 ·rw [if_neg (by decide),if_pos rfl]
 ·rw [if_neg (by decide),if_neg (by decide),if_pos rfl]
theorem DT (a:AS)(w:Bool)(s:Int×Bool×By):eU [Op.put (dc w) (ff s)] (fV a)=fV {a with S:=λx=>if x=w then some s else a.S x}:=by
 funext k
 show (if k=dc w then some (ff s) else fV a k)=_
 by_cases h:k=dc w
 ·rw [if_pos h,h,jy]
  dsimp only
  rw [if_pos rfl];rfl
 ·rw [if_neg h]
  unfold fV
  dsimp only
  cases w
  ·rw [if_neg h,if_neg h,if_neg (show ¬true=false by decide)]
  ·rw [if_neg (show ¬false=true by decide)]
   split
   ·rfl
   split
   ·rfl
   split
   ·rfl
   split
   ·rfl
   rfl
theorem CH (a:AS)(c:iY)(w:Bool)(hk:c.key= []∨c.key= [107]):eU (jn a (.cmd c w)) (fV a)=fV {a with now:=yB a (.cmd c w),S:=NK a (.cmd c w)}:=by
 unfold jn yB NK kS
 dsimp only
 cases ja c (a.S w) with
 |false=>rfl
 |true=>
  show eU (_++_) _=fV {a with now:=MB c.key (dp c (a.now c.key)) a.now,S:=λx=>if x=w then some (pC c (a.now c.key)) else a.S x}
  rw [kR,Jv a c hk,DT]
theorem BA (a:AS)(i t:Int)(cb:By){kind:Int}(h:gb kind data wh):eU (jn a wh++ [Op.put [97] (fy i t cb)]) (fV a)=fV (GF a i t cb wh):=by
 rw [kR]
 cases h with
 |cmd _ c w _ _ _ _ hk _=>rw [CH a c w hk,Bv];rfl
 |idle|more|Bo=>exact Bv a i t cb
theorem ta (a:AS){kind:Int}(h:gb kind data wh):∀o∈jn a wh,o.key∈U5:=by
 cases h with
 |idle|more|Bo=>exact λo ho=>jZ ho
 |cmd _ c w _ _ _ _ hk _=>
  intro o ho
  unfold jn kS at ho
  dsimp only at ho
  split at ho
  ·rcases gi ho with ho|ho
   ·have:o.key=dj c:=by
     revert ho
     generalize dp c (a.now c.key)=v
     intro ho
     match v with
     |none=>exact jZ ho
     |some none=>rw [eF ho];rfl
     |some (some v)=>rw [eF ho];rfl
    rw [this]
    rcases vQ c hk with ⟨h1,_⟩|⟨h1,_⟩<;>rw [h1]<;>decide
   ·rw [eF ho]
    show dc w∈U5
    cases w<;>decide
  ·exact jZ ho
theorem CO (a:AS)(wh:rD):(jn a wh).length<=2:=by
 cases wh with
 |no=>exact Nat.zero_le _
 |cmd c w=>
  unfold jn kS
  dsimp only
  split
  ·generalize dp c (a.now c.key)=v
   match v with
   |none=>exact Nat.le_succ _
   |some none=>exact bS _
   |some (some v)=>exact bS _
  ·exact Nat.zero_le _
noncomputable def KU:SV->Prop
 | .ref _=>False
 |_=>True
noncomputable def nu:SO->Prop
 | .list vs=>∀v∈vs,KU v
 | .inst c _=>c≠15/\c≠16
 | .cj _=>True
 |_=>False
noncomputable def Kp (H H' :HP):Prop:=∀(i:Nat) (o:SO),H[i]? =some o->nu o->H'[i]? =some o
theorem Kp.trans {H H1 H2:HP}(a:Kp H H1)(b:Kp H1 H2):Kp H H2:=λi o h p=>b i o (a i o h p) p
theorem Gr.kp (a:Gr H H1):Kp H H1:=λi o e u8=>a.at e
theorem kf (xs:List Int):nu (.list (iL xs)):=λv hv=>by
 refine aZ (gD hv) λx u8 de=> ?_;subst de
 exact True.intro
theorem d8.kp {k:Nat}(h:d8 H k xs)(g:Kp H H'):d8 H' k xs:=by
 refine Bg h.ex λv a b c h1 h2 h3 h4 h5=> ?_
 exact ⟨v,a,b,c,g _ _ h1 ⟨by decide,by decide⟩,g _ _ h2 (kf _),g _ _ h3 (kf _),g _ _ h4 (kf _),g _ _ h5 (kf _)⟩
inductive nV (H:HP):SV->Option (List Int)->Prop where
 |no:nV H .none none
 |yes (r:Nat) (xs:List Int) (h:d8 H r xs) (hx:∀x∈xs,0<=x/\x<128) (hl:xs.length<50):nV H (.ref r) (some xs)
theorem nV.kp (h:nV H v m)(g:Kp H H'):nV H' v m:=by
 cases h with
 |no=>exact .no
 |yes r xs h hx hl=>exact .yes r xs (h.kp g) hx hl
noncomputable def wT (aP:By):Option (List Int)->By
 |none=>aP
 |some xs=>dC xs
structure eQ (H:HP)(si di bi:Nat)(D:By->Option By)(bl:List (Nat×List Op))(aU aW:Int):Prop where
 st:H[si]? =some (bH di bi aU aW)
 dd:∃so,H[di]? =some so/\dy so D
 bb:H[bi]? =some (.list (bl.map λp=> .ref p.1))
 at_:∀p∈bl,H[p.1]? =some (.list (p.2.map Op.sv))/\∀o∈p.2,o.key∈U5
theorem vj (ops:List Op):nu (.list (ops.map Op.sv)):=λv hv=>by
 refine aZ (gD hv) λo u8 de=> ?_;subst de
 cases o<;>exact True.intro
theorem tv (h:dy so D):¬nu so:=by
 obtain ⟨es,h|⟨h,_⟩,_⟩:=h.ex<;>(subst h;exact id)
theorem zB {bl:List (Nat×List Op)}(h:bl≠ []):¬nu (.list (bl.map λp=> .ref p.1)):=λp=>by
 cases bl with
 |nil=>exact h rfl
 |cons x r=>exact p _ (.head _)
theorem xL {mi si di bi:Nat}{a t d aU aW:Int}(hm:H[mi]? =some (aX si a t c d s))(h:eQ H si di bi D bl aU aW)(lF:bl≠ [])(k:Kx [mi,si,di,bi] H H'):Kp H H' :=λi o e p=>by
 refine aZ h.dd λso h1 h2=> ?_
 have ne:∀{j:Nat} {x:SO},H[j]? =some x->¬nu x->i≠j:=λhj n=>cV e hj λq=>n (q▸p)
 exact k i o (List.not_mem_cons_of_ne_of_not_mem (ne hm λz=>z.1 rfl) (wz (ne h.st λz=>z.2 rfl) (ne h1 (tv h2)) (ne h.bb (zB lF)))) e
structure nX (a:AS):Prop where
 aP:a.aP.length<100
 S:∀w,z7 (a.S w)
 now:∀k b,a.now k=some b->b.length<=90
 i0:0<=a.idx
 i1:a.idx<1000
section
variable {H:HP}{si di bi mi e:Nat}{aU aW aO:Int}{sync:Bool}{a:AS}{bl:List (Nat×List Op)}{t k:Int}{data:By}{wh:rD}{cf:SV}{cm:Option (List Int)}
theorem AV {n:Int}:bV .ne (.int n) (.int n) H=some false:=(k8 _ _ _).trans (by rw [bf rfl];rfl)
theorem zn (hm:H[mi]? =some (aX si a.idx a.term a.aP aO sync))(he:H[e]? =some (lm t (a.idx+1) k data))(hc:nV H cf cm)(d:Nat){C:Prop}
  (K:∀H1,Gr H H1->(∀o:cQ,aK P (run P (d+5)) (bx 3 HT) [some (.ref mi),some (.ref e),some cf,some (.bytes (wT a.aP cm)),none,none,none] H1=o->aK P (run P (d+5)) HT [some (.ref mi),some (.ref e),some cf,none,none,none,none] H=o)->C):C:=by
 cases hc with
 |no=>exact K H Gr.refl λo h=>ae (cF (an (aE rfl he rfl) (aJ (aE rfl hm rfl) rfl rfl) AV) aj) (ae (bJ (aE rfl hm rfl)) (ae (cF (an rfl rfl rfl) aj) h))
 |yes r xs hr hx hl=>
  refine aZ (px hr hx (dR hl (by decide)) d) λH1 e1 g1=> ?_
  exact K H1 g1 λo h=>ae (cF (an (aE rfl he rfl) (aJ (aE rfl hm rfl) rfl rfl) AV) aj) (ae (bJ (aE rfl hm rfl)) (ae (eZ (an rfl rfl rfl) (ae (bJ (cz (aa rfl af) e1)) aj)) h))
theorem B3 (hm:H[mi]? =some (aX si a.idx a.term a.aP aO sync))(cI:eQ H si di bi (fV a) bl aU aW)(he:H[e]? =some (lm t (a.idx+1) k data))(hw:gb k data wh)(ha:nX a)(d:Nat){C:Prop}
  (K:∀H1 cmd,Wb H ((jn a wh).map Op.sv) H1->(∀o:cQ,aK P (run P (d+6)) (bx 7 HT) [some (.ref mi),some (.ref e),some cf,some (.bytes cb),some (.ref H.length),some (ob (lW a wh)),some cmd] H1=o->aK P (run P (d+6)) (bx 3 HT) [some (.ref mi),some (.ref e),some cf,some (.bytes cb),none,none,none] H=o)->C):C:=by
 refine aZ (zf (d+5) [some (.ref mi),some (.ref e),some cf,some (.bytes cb),none,none,none] H) λH1 e1 w1=> ?_
 have g1:=w1.gr
 have Eo:=g1.at hm
 have M3:=g1.at he
 have go:∀{v:SV} {H2:HP} {o:cQ},run P (d+6) 75 [.ref mi, .ref e] H1= .ok v H2->aK P (run P (d+6)) (bx 6 HT) [some (.ref mi),some (.ref e),some cf,some (.bytes cb),some (.ref H.length),some .none,some v] H2=o->aK P (run P (d+6)) (bx 3 HT) [some (.ref mi),some (.ref e),some cf,some (.bytes cb),none,none,none] H=o:=λe2 h=>
  ae (bJ e1) (ae (bJ rfl) (ae (bJ (aw (q:= .fn 75) (v:= .ref mi) rfl (bO Eo) (aa rfl af) e2)) h))
 cases hw with
 |idle h=>exact K H1 .none w1 λo h2=>go (rn M3 h (d+5)) (ae (cF (an rfl rfl rfl) aj) h2)
 |more h c ok x ex=>
  subst ex
  refine aZ (Fq ok x d H1) λH2 e2 g2=> ?_
  exact K H2 .none (w1.more g2) λo h2=>go (ma M3 h (wx c [x]) e2) (ae (cF (an rfl rfl rfl) aj) h2)
 |Bo h c ok h6 ex=>
  subst ex
  refine aZ (EV ok h6 d H1) λH2 e2 g2=> ?_
  exact K H2 .none (w1.more g2) λo h2=>go (ma M3 h (by have:=wx c [];rwa [ch] at this) e2) (ae (cF (an rfl rfl rfl) aj) h2)
 |cmd h c w ok h6 ex DI hk hv=>
  subst ex
  refine jX (xO (mi:=mi) M3 h ok h6 d) λH2 kk e2 g2 h2=> ?_
  refine aZ cI.dd λso d1 d2=> ?_
  have hp:=CA a c hk
  refine y6 (w:=w) (S:=a.S w) hm cI.st d1 d2 (w1.more g2) h2 ok DI (by rcases hk with q|q<;>rw [q]<;>decide) (λb hb=>by
   have:=ha.now _ _ (hp▸hb)
   lia) (jy a w) (ha.S w) d λH3 e3 w3=> ?_
  rw [hp] at e3 w3
  rw [Ex] at w3
  exact K H3 (.ref kk) w3 λo h=>go e2 (ae (eZ (an rfl rfl rfl) (ae (bJ (aw (q:= .fn 76) (v:= .ref mi) rfl (bO (g2.at Eo)) (aa rfl (aa rfl af)) e3)) aj)) h)
noncomputable def md (a:AS)(t:Int)(cb:By)(wh:rD):List Op:=zj (jn a wh) (a.idx+1) t cb
theorem eQ.gr (h:eQ H si di bi D bl aU aW)(g:Gr H H'):eQ H' si di bi D bl aU aW:=
 ⟨g.at h.st,h.dd.imp λu8 z=>⟨g.at z.1,z.2⟩,g.at h.bb,λp hp=>⟨g.at (h.at_ p hp).1,(h.at_ p hp).2⟩⟩
theorem xJ (h:xs.length<50):(dC xs).length<100:=by
 unfold dC jd
 rw [aL,dq]
 show _+4<100
 lia
theorem nV.len (h:nV H cf cm)(hc:c.length<100):(wT c cm).length<100:=by
 cases h with
 |no=>exact hc
 |yes r xs h hx hl=>exact xJ hl
theorem LE (hm:H[mi]? =some (aX si a.idx a.term a.aP aO sync))(cI:eQ H si di bi (fV a) bl aU aW)(lF:bl≠ [])(xY:bl.length<1000)(he:H[e]? =some (lm t (a.idx+1) k data))(hw:gb k data wh)(hc:nV H cf cm)(ha:nX a)(t0:0<=t)(t1:t<1000)(d:Nat){C:Prop}
  (K:∀H' r,run P (d+7) 74 [.ref mi, .ref e,cf] H= .ok (ob (lW a wh)) H'->H'[mi]? =some (aX si (a.idx+1) t (wT a.aP cm) (bif sync then a.idx+1 else aO) sync)->
   eQ H' si di bi (fV (GF a (a.idx+1) t (wT a.aP cm) wh)) (bl++ [(r,md a t (wT a.aP cm) wh)]) (bif sync then ((bl.length+1:Nat):Int) else aU) (aW+(md a t (wT a.aP cm) wh).length)->Kp H H'->C):C:=by
 have DI:=hc.len ha.aP
 refine zn hm he hc (d+1) λH1 g1 f1=>B3 (cf:=cf) (cb:=wT a.aP cm) (g1.at hm) (cI.gr g1) (g1.at he) hw ha d λH2 cmd w2 f2=> ?_
 generalize wT a.aP cm=cb at*
 have N5:=cI.gr g1
 refine aZ N5.dd λso d1 d2=> ?_
 have i0:=ha.i0
 have i1:=ha.i1
 have hl:=CO a wh
 refine zE (dh:=ob (lW a wh)) (cmd:=cmd) (cf:=cf) (cb:=cb) (g1.at hm) N5.st d1 d2 N5.bb (g1.at he) w2 (ta a hw) (by exact lC ‹_› rfl) (by rw [bI];exact xY) (by lia) (by lia) t0 (by exact iB ‹_› rfl) DI (d+1) λH3 VR r e3 m3 s3 q3 D3 b3 r3 kx=> ?_
 have kp:=xL (g1.at hm) N5 lF kx
 rw [show ((jn a wh).length:Int)+1=(md a t cb wh).length from congrArg Int.ofNat (aL (as:=jn a wh) (bs:= [Op.put [97] (fy (a.idx+1) t cb)])).symm,bI] at s3
 exact K H3 r (aF rfl rfl (f1 _ (f2 _ e3))) m3 ⟨s3,⟨VR,q3,BA a (a.idx+1) t cb hw▸D3⟩,by rw [eJ];exact b3,λp hp=>(gi hp).elim (λhp=>⟨kp _ _ (N5.at_ p hp).1 (vj _),(cI.at_ p hp).2⟩) λq=>eF q▸⟨r3,mY (ta a hw)⟩⟩ (g1.kp.trans kp)
end
theorem Xn:(H++a::b::c::G)[H.length+2]? =some c:=by rw [eG (gU _ 2),Nat.add_sub_cancel_left];rfl
theorem vC (d:Nat)(l:cR)(H:HP):bj P (run P (d+1)) (.callC 16 .nil) l H= .ok (.ref H.length) (H++ [bH (H.length+1) (H.length+2) 0 0, .aM, .list []]):=by
 have h1:bD P (.ref H.length) 40 (.ref (H++ [SO.inst 16 []]).length) ((H++ [SO.inst 16 []])++ [SO.aM])=some (H++SO.inst 16 [(40, .ref (H.length+1))]:: [SO.aM]):=by
  rw [ng,aL,sM rfl (by decide)]
  rfl
 have h2:bD P (.ref H.length) 6 (.ref (H++SO.inst 16 [(40, .ref (H.length+1))]:: [SO.aM]).length) ((H++SO.inst 16 [(40, .ref (H.length+1))]:: [SO.aM])++ [SO.list []])=some (H++SO.inst 16 [(40, .ref (H.length+1)),(6, .ref (H.length+2))]:: [SO.aM, .list []]):=by
  rw [ng,aL,sM rfl (by exact (show 1<100 by decide))]
  rfl
 exact lw af rfl (bW rfl rfl (ae (bU rfl rfl h1) (ae (bU (bE af) rfl h2) (ae (bU rfl rfl (zP (fs' := [(40, .ref (H.length+1)),(6, .ref (H.length+2)),(30, .int 0)]) rfl (show 2<100 by decide) rfl)) (ae (bU rfl rfl (zP rfl (show 3<100 by decide) rfl)) aj)))))
theorem xC {si:Nat}(d:Nat)(H:HP):run P (d+1) 69 [.ref H.length, .ref si] (H++ [.inst 15 []])= .ok .none (H++ [aX si 0 0 [] 0 false]):=
 bW rfl rfl (ae (bU rfl rfl (jb (fs' := [(57, .ref si)]) rfl (show 0<100 by decide) rfl)) (ae (bU rfl rfl (jb (fs' := [(57, .ref si),(2, .int 0)]) rfl (show 1<100 by decide) rfl))
  (ae (bU rfl rfl (jb (fs' := [(57, .ref si),(2, .int 0),(62, .int 0)]) rfl (show 2<100 by decide) rfl)) (ae (bU rfl rfl (jb (fs' := [(57, .ref si),(2, .int 0),(62, .int 0),(11, .bytes [])]) rfl (show 3<100 by decide) rfl))
  (ae (bU rfl rfl (jb (fs' := [(57, .ref si),(2, .int 0),(62, .int 0),(11, .bytes []),(20, .int 0)]) rfl (show 4<100 by decide) rfl)) (ae (bU rfl rfl (jb rfl (show 5<100 by decide) rfl)) aj))))))
theorem yR:dU U .aM (λu8=>none):=⟨[], .inr ⟨rfl,rfl⟩,λu8=>rfl, .nil,λu8 h=>jZ h⟩
theorem oZ (H G:HP):eQ (H++bH (H.length+1) (H.length+2) 0 0:: .aM:: .list []::G) H.length (H.length+1) (H.length+2) (λu8=>none) [] 0 0:=
 ⟨nE,⟨_,sb,yR⟩,Xn,λu8 h=>jZ h⟩
theorem Mn {R:au}(h:dM P R es l H= .ok vs H1)(h2:dK vs=true):bj P R (.Aw es) l H= .ok .text H1:=by
 show (dM P R es l H).bind _=_
 rw [h]
 exact if_pos h2
section
variable {H:HP}{si di bi mi r:Nat}{aU aW aO applied term:Int}{aP:By}{sync:Bool}{bl:List (Nat×List Op)}{xs:List Int}{D:By->Option By}
noncomputable def QS (cb:By):AS:=⟨λu8=>none,λu8=>none,1,1,cb⟩
theorem Bn (cb:By):eU [Op.put [97] (fy 1 1 cb)] (λu8=>none)=fV (QS cb):=by
 funext k
 show (if k= [97] then some (fy 1 1 cb) else none)=_
 unfold fV QS
 dsimp only
 split
 ·rfl
 ·split
  ·rfl
  split
  ·rfl
  split
  ·rfl
  split<;>rfl
theorem Lk (hm:H[mi]? =some (aX si applied term aP aO sync))(cI:eQ H si di bi (λu8=>none) [] 0 0)(hc:d8 H r xs)(hx:∀x∈xs,0<=x/\x<128)(hl:xs.length<50)(d:Nat){C:Prop}
  (K:∀H' q,run P (d+6) 73 [.ref mi, .int 1, .int 1, .ref r] H= .ok .none H'->H'[mi]? =some (aX si 1 1 (dC xs) 1 sync)->eQ H' si di bi (fV (QS (dC xs))) [(q, [Op.put [97] (fy 1 1 (dC xs))])] 1 1->Kx [mi,si,di,bi] H H'->C):C:=by
 refine aZ cI.dd λso d1 d2=> ?_
 have e0:=yv (k:= [97]) cI.st d1 d2 (d+4)
 refine aZ (zf (d+4) [some (.ref mi),some (.int 1),some (.int 1),some (.ref r),none,none] H) λH1 e1 w1=> ?_
 refine aZ (px (hc.gr w1.gr) hx (dR hl (by decide)) d) λH2 e2 g2=> ?_
 have JV:=g2.at (w1.gr.at hm)
 refine aZ (oM (index:=1) (term:=1) (aP:=dC xs) hm (w1.more g2) (by decide) (by decide) (by decide) (by decide) (by decide) (xJ hl) (d+1)) λH3 e3 w3=> ?_
 have g3:=w3.gr
 refine FD (ops:= [Op.put [97] (fy 1 1 (dC xs))]) (sync:=true) w3 (λz=>Y6 z) (mY (ops:= []) λu8 z=>jZ z) (g3.at cI.st) (g3.at d1) d2 (g3.at cI.bb) (by decide) (d+3) λH4 YQ e4 q1 q2 q3 q4 q5 q6=> ?_
 rw [Bn] at q3
 have Qt:mi∉ [si,di,bi]:=wz (cV hm cI.st (fJ rfl)) (cV hm d1 (Ne.symm (eD d2))) (cV hm cI.bb (fJ rfl))
 have n1:si≠mi:=Ne.symm (List.ne_of_not_mem_cons Qt)
 have n3:bi≠mi:=cV cI.bb hm (fJ rfl)
 have PN:=q6 mi _ Qt (g3.at hm)
 have off:∀{o:SO} {j:Nat} {x:SO},j≠mi->H4[j]? =some x->(H4.set mi o)[j]? =some x:=λhj hx=>bP hj hx
 have f3:(H4.set mi (aX si 1 1 (dC xs) aO sync))[mi]? =some (aX si 1 1 (dC xs) aO sync):=eB PN
 have f4:=pA (d:=d+3) f3 (off n1 q1) (off n3 q4) rfl
 rw [List.set_set] at f4
 have n5:H3.length≠mi:=Nat.ne_of_gt (Nat.lt_of_lt_of_le (gw hm).1 g3.le)
 exact K _ H3.length (bW rfl rfl (ae (cF (an (aw (R:=run P (d+5)) (q:= .fn 90) (v:= .ref si) (aE rfl hm rfl) (bO cI.st) (aa rfl af) e0) rfl rfl) aj) (ae (bJ e1) (ae (bJ (cz (aa rfl af) e2))
  (ae (bZ (aw (q:= .fn 72) (v:= .ref mi) rfl (bO JV) (aa rfl (aa rfl (aa rfl (aa rfl af)))) e3)) (ae (KA (aw (q:= .fn 86) (v:= .ref si) (aE rfl (g3.at hm) rfl) (bO (g3.at cI.st)) (aa rfl (aa rfl af)) e4))
  (ae (bU rfl rfl (EM PN rfl rfl)) (ae (bU rfl rfl (AF PN rfl rfl)) (ae (bU rfl rfl (AF PN rfl rfl))
  (ae (bZ (aw (q:= .fn 71) (v:= .ref mi) rfl (bO f3) af f4)) aj)))))))))) (eB PN) ⟨off n1 q1,⟨YQ,off (cV d1 hm (eD d2)) q2,q3⟩,off n3 q4,λp hp=>eF hp▸⟨off n5 q5,mY (ops:= []) λu8 z=>jZ z⟩⟩ (z0 g3 q6)
theorem J5 {x y z:SV}(hm:H[mi]? =some (aX si applied term aP aO sync))(cI:eQ H si di bi (fV a) bl aU aW)(d:Nat):run P (d+2) 73 [.ref mi,x,y,z] H= .exc 8 H:=by
 refine aZ cI.dd λso d1 d2=> ?_
 have e0:=yv (k:= [97]) cI.st d1 d2 d
 have:fV a [97]=some (fy a.idx a.term a.aP):=if_pos rfl
 rw [this] at e0
 exact lf rfl rfl rfl (gZ (eZ (an (aw (R:=run P (d+1)) (q:= .fn 90) (v:= .ref si) (aE rfl hm rfl) (bO cI.st) (aa rfl af) e0) rfl rfl) (gZ (qE rfl))))
theorem Jm {e:Nat}{t i k:Int}{cf:SV}(hm:H[mi]? =some (aX si applied term aP aO sync))(he:H[e]? =some (lm t i k data))(hi:i≠applied+1)(i0:0<=i)(i1:i<1000)(a0:0<=applied)(a1:applied<1000)(d:Nat):run P (d+1) 74 [.ref mi, .ref e,cf] H= .exc 8 H:=by
 have og:dK [.int i, .int applied]=true:=by
  show (decide (0<=i)&&decide (i<100000)&&(decide (0<=applied)&&decide (applied<100000)&&true))=true
  rw [bf i0,bf a0,bf (by exact iB ‹_› rfl),bf (by exact iB ‹_› rfl)];rfl
 refine lf rfl rfl rfl (gZ (eZ (an (aE rfl he rfl) (aJ (aE rfl hm rfl) rfl rfl) ((k8 _ _ _).trans (by rw [aR hi];rfl))) (gZ (qE (Mn (aa (aE rfl he rfl) (aa (aE rfl hm rfl) af)) og)))))
end
noncomputable def Ko (n:Nat)(H H' :HP):Prop:=∀(j:Nat) (o:SO),j≠n->H[j]? =some o->H'[j]? =some o
theorem Ko.trans {n:Nat}{H H1 H2:HP}(a:Ko n H H1)(b:Ko n H1 H2):Ko n H H2:=λj o h e=>b j o h (a j o h e)
theorem Gr.ko {n:Nat}(a:Gr H H1):Ko n H H1:=λu8 u8 u8 e=>a.at e
theorem K7 {n:Nat}:Ko n H (H.set n o):=λj o' h e=>(eM (Ne.symm h)).trans e
theorem DV {n i:Nat}(h:bD P (.ref n) i v H=some H'):Ko n H H' :=by
 unfold bD at h
 dsimp only at h
 split at h
 ·split at h
  ·cases h;exact K7
  ·exact mZ h
 ·exact mZ h
section
variable {H0 H:HP}{pre aH:By}{d:Nat}
theorem qX {n:Int}(h:Cu H0 pre (n::aH) H)(q:n<128):∃H',run P (d+1) 15 [.ref H0.length] H= .ok (.int n) H' /\Cu H0 (pre++ [n]) aH H' /\Ko H0.length H H' :=by
 have e0:=nR (R:=run P d) (l:= [some (.ref H0.length),none,none]) (i:=0) h rfl
 have e1:=hJ (R:=run P d) (l:= [some (.ref H0.length),some (.int pre.length),none]) (i:=0) h rfl
 refine aZ (qs (n:=(pre.length:Int)+1) h (p:=pre++ [n]) (r:=aH) mS mV) λH' e2 s=> ?_
 have e3:=hJ (R:=run P d) (l:= [some (.ref H0.length),some (.int pre.length),none]) (i:=0) s rfl
 rw [<-mS] at e3
 exact ⟨H',aF rfl rfl (ae (bJ e0) (aY (eZ (cM (dP (an rfl (bq (aa e1 af) rfl) BW) (dP (an (aN e1 rfl i4) rfl (gv (bf q))) fP))) (ae (bU (aJ rfl rfl rfl) rfl e2) (aY (bK (aN e3 rfl i4))))))),s,DV e2⟩
theorem xq {n:Int}(h:Cu H0 pre (n::aH) H)(q:n<128)(hr:n<=aH.length):∃H',run P (d+2) 44 [.ref H0.length] H= .ok (.int n) H' /\Cu H0 (pre++ [n]) aH H' /\Ko H0.length H H' :=by
 refine mF (qX (d:=d) h q) λH1 e1 s1 k1=> ?_
 exact ⟨H1,aF rfl rfl (ae (bJ (aw rfl (eX h 64) af e1)) (ae (cF (an rfl (aw (R:=run P (d+1)) rfl (eX s1 36) af (AI (d:=d) s1)) (jI (aR (Int.not_lt.mpr hr)))) aj) (aY (bK rfl)))),s1,k1⟩
noncomputable def P2:cA:= .cons (.j4 (.name 3) (.eu (.loc 0) 64 .nil)) (.cons (.ifs (.and (.cons (.loc 1) (.cons (.cmp .le (.loc 3) (.sub (.loc 1) (.neg (.int 1)))) .nil))) (.cons .bad .nil) .nil) (.cons (.expr (.eu (.loc 1) 1 (.cons (.loc 3) .nil))) .nil))
theorem A8 (xs:List Int)(x:Int):iL (xs++ [x])=iL xs++ [.int x]:=by unfold iL;rw [eJ];rfl
theorem Pr {n a:Int}(h:decide (n<=a)=q):bV .le (.int n) (.int a) H=some q:=congrArg some h
noncomputable def Dk (n k:Nat)(f:Nat->Option SV):cR:= [some (.ref n),some (.ref k),f 2,f 3]
noncomputable def Ob (z:Option SV)(y:SV):Nat->Option SV
 |2=>z
 |_=>some y
noncomputable def Uj (n k:Nat)(H H' :HP):Prop:=∀(j:Nat) (o:SO),j≠n->j≠k->H[j]? =some o->H'[j]? =some o
theorem LU:(iL xs).length=xs.length:=bI _
theorem C0 {x:Int}{k n:Nat}{R:au}(rM:H1[k]? =some (.list (iL done)))(hx:∀y∈done,y<x):pc P R (.cons (.loc 1) (.cons (.cmp .le (.loc 3) (.sub (.loc 1) (.neg (.int 1)))) .nil)) (al (Dk n k f) 3 (.int x)) H1= .ok false H1:=by
 rcases List.eq_nil_or_concat done with z|⟨ys,y,z⟩
 ·rw [z] at rM
  exact iU (Bu rfl rM)
 ·rw [List.concat_eq_append] at z
  have UY:=hx y (z▸List.mem_append_right _ (.head _))
  rw [z,A8] at rM
  refine dP (q:=false) (H1:=H1) ((Bu rfl rM).trans ?_) (iU (an rfl (aN rfl rfl (en rM)) (Pr (aR (Int.not_le.mpr UY)))))
  cases iL ys<;>rfl
theorem Cz (h:Cu H0 pre aH H){k:Nat}(hk:H0.length<k):Cu H0 pre aH (H.set k o):=by
 obtain ⟨G,rfl⟩:=h
 obtain ⟨j,rfl⟩:∃j,k=H0.length+(j+1):=⟨k - H0.length - 1,by lia⟩
 refine ⟨G.set j o, ?_⟩
 rw [List.set_append_right _ _ (gU _ _),Nat.add_sub_cancel_left]
 rfl
theorem IA {k:Nat}{x:Int}(f:Nat->Option SV)(h:Cu H0 pre (x::aH) H)(hk:H[k]? =some (.list (iL done)))(KL:H0.length<k)(q:x<128)(hx:∀y∈done,y<x)(hl:done.length<100){C:Prop}
  (K:∀H',aK P (run P (d+1)) P2 (Dk H0.length k f) H= .next (Dk H0.length k (Ob (f 2) (.int x))) H'->Cu H0 (pre++ [x]) aH H'->H'[k]? =some (.list (iL (done++ [x])))->Uj H0.length k H H'->C):C:=by
 refine mF (qX (d:=d) h q) λH1 e1 s1 k1=> ?_
 have rM:=k1 _ _ (Nat.ne_of_gt KL) hk
 have e2:=jT (R:=run P (d+1)) (v:= .int x) rM (by rw [LU];exact dR hl (by decide))
 rw [<-A8] at e2
 exact K (H1.set k (.list (iL (done++ [x])))) (ae (bJ (aw rfl (eX h 64) af e1)) (ae (cF (cM (C0 rM hx)) aj) (ae (bZ (aw rfl (bO rM) (aa rfl af) e2)) aj))) (Cz s1 KL) (eB rM) λj o h1 h2 e=>(eM (Ne.symm h2)).trans (k1 j o h1 e)
theorem oQ {n k:Nat}{H:HP}(h:k<n):cu (.range 0 n) k H=some (some (.int (0+(k:Int)))):=congrArg some (if_pos (by lia))
theorem qw {n:Nat}:cu (.range 0 n) n H=some none:=congrArg some (if_neg (by lia))
theorem Hy {k:Nat}(KL:H0.length<k)(aH:By){C:Prop}(cS:List Int):∀(done:List Int) (pre:By) (H:HP) (f:Nat->Option SV),(done++cS).Pairwise (·< ·)->(∀x∈cS,x<128)->(done++cS).length<50->Cu H0 pre (cS++aH) H->H[k]? =some (.list (iL done))->
  (∀H' f',forLoop [2] (λl H=>aK P (run P (d+1)) P2 l H) (.range 0 (done++cS).length) (cS.length+1) done.length (Dk H0.length k f) H= .next (Dk H0.length k f') H'->Cu H0 (pre++cS) aH H'->H'[k]? =some (.list (iL (done++cS)))->Uj H0.length k H H'->C)->C:=by
 induction cS with
 |nil=>
  intro done pre H f hp hq hl s hk K
  rw [ch,ch] at K
  exact K H f (ju qw) s hk λu8 u8 u8 u8 e=>e
 |cons x t ih=>
  intro done pre H f hp hq hl s hk K
  have lN:done.length<(done++x::t).length:=by rw [aL];exact Nat.lt_add_of_pos_right (Nat.succ_pos _)
  have hd:done++x::t=(done++ [x])++t:=(bX done [x] t).symm
  refine IA (d:=d) (fr (al (Dk H0.length k f) 2 (.int (0+(done.length:Int))))) s hk KL (hq x (.head _)) (λw hw=>(List.pairwise_append.mp hp).2.2 w hw x (.head _)) (dR lN (dR hl (by decide))) λH1 e1 s1 h1 k1=> ?_
  have hit:=oQ (H:=H) lN
  rw [hd] at hp hl hit K
  refine ih (done++ [x]) (pre++ [x]) H1 (Ob (some (.int (0+(done.length:Int)))) (.int x)) hp (λy hy=>hq y (.tail _ hy)) hl s1 h1 λH2 f2 c1 c3 c4 c5=> ?_
  rw [aL (as:=done)] at c1
  rw [bX] at c3
  exact K H2 f2 (fq hit rfl e1 c1) c3 c4 λj o a b c=>c5 j o a b (k1 j o a b c)
theorem ll {n:Nat}(h:n<=4096):Mine.bG Bi.range [.int n] H= .ok (.range 0 n) H:=if_pos ⟨by exact iE ‹_› rfl,fw _⟩
theorem mO {xs:List Int}(h:Cu H0 pre (jd xs++aH) H)(hp:xs.Pairwise (·< ·))(hq:∀x∈xs,x<128)(hl:xs.length<50)(d:Nat){C:Prop}
  (K:∀H' k,run P (d+3) 54 [.ref H0.length] H= .ok (.ref k) H'->Cu H0 (pre++jd xs) aH H'->H'[k]? =some (.list (iL xs))->H0.length<k->Ko H0.length H H'->C):C:=by
 have h1:Cu H0 pre ((xs.length:Int)::(xs++aH)) (H++ [SO.list []]):=by
  obtain ⟨G,rfl⟩:=h
  exact ⟨G++ [SO.list []],ng⟩
 have KL:H0.length<H.length:=by
  obtain ⟨G,rfl⟩:=h
  rw [aL,dq]
  exact Nat.lt_add_of_pos_right (Nat.succ_pos _)
 obtain ⟨H1,e1,s1,k1⟩:=xq (d:=d) h1 (by exact iF ‹_› rfl) (by rw [aL];lia)
 have hN:fa (.range 0 (xs.length:Int)) H1=xs.length:=congrArg Int.toNat (Int.sub_zero (xs.length:Int))
 refine Hy (d:=d+1) KL aH xs [] (pre++ [(xs.length:Int)]) H1 (λu8=>none) hp hq hl s1 (k1 _ _ (Nat.ne_of_gt KL) (dW ..)) λH2 f2 c1 c3 c4 c5=> ?_
 rw [bX] at c3
 exact K H2 H.length (aF rfl rfl (ae (bJ (bE af)) (ae (f_ (v:= .range 0 xs.length) (bq (aa (cz (aa rfl af) e1) af) (ll (by exact lD ‹_› rfl))) (by rw [hN];exact c1)) (aY (bK rfl))))) c3 c4 KL λj o hj e=>c5 j o hj (cW (gw e).1) (k1 j o hj (Gr.at (H:=H) ⟨_,rfl⟩ e))
theorem EC (h:Cu H0 pre [0] H)(d:Nat){C:Prop}(K:∀H',run P (d+3) 20 [.ref H0.length] H= .ok (.bool false) H'->Cu H0 (pre++ [0]) [] H'->Ko H0.length H H'->C):C:=by
 have e0:=nR (R:=run P (d+2)) (l:= [some (.ref H0.length),none]) (i:=0) h rfl
 have e1:=hJ (R:=run P (d+2)) (l:= [some (.ref H0.length),none]) (i:=0) h rfl
 refine aZ (qs (n:=(pre.length:Int)+1) h (p:=pre++ [0]) (r:= []) mS mV) λH' e2 s=> ?_
 have e4:eC (.ref H0.length) 4 H= .ok (.int pre.length) H:=by
  obtain ⟨G,rfl⟩:=h
  unfold eC
  dsimp only
  rw [nE];rfl
 exact K H' (aF rfl rfl (ae (cF (an e0 (bq (aa e1 af) rfl) FW) aj) (ae (bJ (aN e1 e0 i4)) (ae (cF (an rfl rfl (jI rfl)) aj) (ae (AH rfl e4 rfl rfl e2) (aY (bK (fU rfl rfl rfl)))))))) s (DV e2)
end
theorem vO (hp:xs.Pairwise (·< ·))(hx:∀x∈xs,x<128)(hl:xs.length<50)(d:Nat)(H:HP):∃H' k,run P (d+4) 56 [.bytes (dC xs)] H= .ok (.ref k) H' /\Gr H H' /\d8 H' k xs:=by
 refine aZ (vZ (d:=d+2) (b:=dC xs) (run P (d+3)) [some (.bytes (dC xs)),none,none,none,none,none,none] 0 rfl H) λH1 e1 s1=> ?_
 have n0:∀x∈([]:List Int),x<128:=λx z=>jZ z
 refine V6 λC K=>mO s1 hp hx hl d λH2 k2 e2 s2 h2 b2 o2=>mO (xs:= []) (aH:= [0,0,0]) s2 .nil n0 (by decide) d λH3 k3 e3 s3 h3 b3 o3=>mO (xs:= []) (aH:= [0,0]) s3 .nil n0 (by decide) d λH4 k4 e4 s4 h4 b4 o4=>mO (xs:= []) (aH:= [0]) s4 .nil n0 (by decide) d λH5 k5 e5 s5 h5 b5 o5=>EC s5 d λH6 e6 s6 o6=> ?_
 have m:∀{j n:Nat} {vs:List SV} {A B:HP},Ko n A B->n<j->A[j]? =some (.list vs)->B[j]? =some (.list vs):=λo a b=>o _ _ (Nat.ne_of_gt a) b
 refine mF (za (m o6 b2 (m o5 b2 (m o4 b2 (m o3 b2 h2)))) (m o6 b3 (m o5 b3 (m o4 b3 h3))) (m o6 b4 (m o5 b4 h4)) (m o6 b5 h5) hp (dR hl (by decide)) (d+1)) λH7 e7 g7 c7=> ?_
 exact K ⟨H7,H6.length,aF rfl rfl (ae (bJ e1) (ae (bJ (cz (aa rfl af) e2)) (ae (bJ (cz (aa rfl af) e3)) (ae (bJ (cz (aa rfl af) e4)) (ae (bJ (cz (aa rfl af) e5))
  (ae (bJ (aw rfl (eX s5 26) af e6)) (ae (bZ (aw rfl (eX s6 19) af (pB (d:=d+2) s6))) (aY (bK (lw (aa rfl (aa rfl (aa rfl (aa rfl (aa rfl af))))) rfl e7)))))))))),s6.gr.trans g7,c7⟩
theorem fT {r:Nat}(h:H[r]? =some (.list vs)):Mine.bG Bi.tuple [.ref r] H= .ok (.tuple vs) H:=by
 show (match H[r]? with
   |some (.list vs)=>dz.ok (SV.tuple vs) H
   |_=> .bad)=_
 rw [h]
theorem B5 {k:Nat}(h:d8 H k xs)(d:Nat):run P (d+1) 51 [.ref k] H= .ok (.tuple [.tuple (iL xs), .tuple [], .tuple [], .tuple [], .bool false]) H:=by
 refine Bg h.ex λv a b c h1 h2 h3 h4 h5=> ?_
 exact aF rfl rfl (aY (bK (cX (aa (bq (aa (aE rfl h1 rfl) af) (fT h2)) (aa (bq (aa (aE rfl h1 rfl) af) (fT h3)) (aa (bq (aa (aE rfl h1 rfl) af) (fT h4)) (aa (bq (aa (aE rfl h1 rfl) af) (fT h5)) (aa (aE rfl h1 rfl) af))))))))
section
variable {H:HP}{si di bi mi:Nat}{aU aW:Int}{sync:Bool}{bl:List (Nat×List Op)}{a:AS}{D:By->Option By}
theorem Fo {x y:Int}{z:Int}(h:(if y<x then y else x)=z):Mine.bG Bi.min [.int x, .int y] H= .ok (.int z) H:=by
 show dz.ok (SV.int (if y<x then y else x)) H=_
 rw [h]
theorem vE {i t:Int}(hm:H[mi]? =some (aX si 0 0 [] 0 sync))(hs:H[si]? =some (bH di bi aU aW))(hb:H[bi]? =some (.list (bl.map λp=>SV.ref p.1)))(hk:aU=bl.length)(hi:0<=i)(x1 x5:Option SV)(d:Nat){C:Prop}
  (K:∀H',aK P (run P (d+2)) (bx 4 UH) [some (.ref mi),x1,some (.int i),some (.int t),some (.bytes cb),x5,some cv] H= .ret (.tuple [.int i, .int t,cv]) H'->H'[mi]? =some (aX si i t cb i sync)->Kx [mi] H H'->C):C:=by
 have f:∀{o:SO},(H.set mi o)[mi]? =some o:=eB hm
 have n1:si≠mi:=cV hs hm (fJ rfl)
 have n3:bi≠mi:=cV hb hm (fJ rfl)
 have f5:=pA (d:=d) (f (o:=aX si i t cb 0 sync)) (bP n1 hs) (bP n3 hb) (by rw [bI];exact hk)
 rw [List.set_set] at f5
 exact K _ (ae (bU rfl rfl (EM hm rfl rfl)) (ae (bU rfl rfl (AF hm rfl rfl)) (ae (bU rfl rfl (AF hm rfl rfl))
  (ae (bU (bq (aa (aE rfl (f (o:=aX si i t cb 0 sync)) rfl) (aa rfl af)) (Fo (if_neg (Int.not_lt.mpr hi)))) rfl (AF hm rfl rfl)) (ae (bZ (aw (q:= .fn 71) (v:= .ref mi) rfl (bO (f (o:=aX si i t cb 0 sync))) af f5)) (aY (bK (cX (aa rfl (aa rfl (aa rfl af))))))))))) f (qr (.head _))
theorem ne_bytes:bV .ne (.bytes x) (.bytes y) H=some (!decide (x=y)):=by
 show some (!(x==y))=_
 by_cases h:x=y
 ·subst h
  rw [iV,bf rfl]
 ·rw [eS h,aR h]
theorem My (hm:H[mi]? =some (aX si 0 0 [] 0 sync))(cI:eQ H si di bi (λu8=>none) [] 0 aW)(d:Nat){C:Prop}(K:∀H',run P (d+3) 70 [.ref mi] H= .ok (.tuple [.int 0, .int 0, .none]) H'->H'[mi]? =some (aX si 0 0 [] 0 sync)->Kx [mi] H H'->C):C:=by
 refine aZ cI.dd λso d1 d2=> ?_
 have e0:=yv (k:= [97]) cI.st d1 d2 (d+1)
 exact vE (i:=0) (t:=0) (cb:= []) (cv:= .none) hm cI.st cI.bb rfl (by decide) (some .none) none d λH1 e1 m1 k1=>
  K H1 (aF rfl rfl (ae (bJ (aw (q:= .fn 90) (v:= .ref si) (aE rfl hm rfl) (bO cI.st) (aa rfl af) e0)) (ae (eZ (an rfl rfl rfl) (ae (bJ rfl) (ae (bJ rfl) (ae (bJ rfl) aj)))) (ae (bJ rfl) (ae (cF (an rfl rfl rfl) aj) e1))))) m1 k1
theorem d8.kx {k:Nat}(h:d8 H k xs)(hm:H[mi]? =some (aX si 0 0 [] 0 sync))(x:Kx [mi] H H'):d8 H' k xs:=by
 refine Bg h.ex λv a b c h1 h2 h3 h4 h5=> ?_
 have kk:∀{j:Nat} {o:SO},H[j]? =some o->(∀q,o≠ .inst 15 q)->H'[j]? =some o:=λe ho=>x _ _ (AB (cV e hm (ho _))) e
 exact ⟨v,a,b,c,kk h1 λu8=>fJ rfl,kk h2 λu8=>fJ rfl,kk h3 λu8=>fJ rfl,kk h4 λu8=>fJ rfl,kk h5 λu8=>fJ rfl⟩
theorem Om (hm:H[mi]? =some (aX si 0 0 [] 0 sync))(cI:eQ H si di bi (fV a) bl aU aW)(hk:aU=bl.length)(ha:nX a)(t0:0<=a.term)(t1:a.term<1000)(hc:a.aP=dC xs)(hp:xs.Pairwise (·< ·))(hx:∀x∈xs,x<128)(hl:xs.length<50)(d:Nat){C:Prop}
  (K:∀H' k,run P (d+5) 70 [.ref mi] H= .ok (.tuple [.int a.idx, .int a.term, .ref k]) H'->d8 H' k xs->H'[mi]? =some (aX si a.idx a.term a.aP a.idx sync)->Kx [mi] H H'->C):C:=by
 refine aZ cI.dd λso d1 d2=> ?_
 have i0:=ha.i0
 have i1:=ha.i1
 have e0:=yv (k:= [97]) cI.st d1 d2 (d+3)
 rw [show fV a [97]=some (fy a.idx a.term a.aP) from if_pos rfl] at e0
 refine aZ (vZ (d:=d+3) (b:=fy a.idx a.term a.aP) (run P (d+4)) [some (.ref mi),some (.bytes (fy a.idx a.term a.aP)),none,none,none,none,none] 1 rfl H) λH1 e1 s1=> ?_
 rw [show fy a.idx a.term a.aP=vb a.idx++(vb a.term++(a.aP.length:Int)::(a.aP++ [])) by rw [ch];rfl] at s1
 refine aZ (ji (d:=d+1) s1 i0 (by exact iB ‹_› rfl)) λH2 e2 s2=> ?_
 refine aZ (ji (d:=d+1) s2 t0 (by exact iB ‹_› rfl)) λH3 e3 s3=> ?_
 refine aZ (hY (d:=d+1) s3 (dR ha.aP (by decide))) λH4 e4 s4=> ?_
 refine jX (vO hp hx hl d H4) λH5 k e6 g6 c6=> ?_
 have lF:a.aP≠ []:=by rw [hc];exact λq=>nomatch q
 have g5:=s4.gr.trans g6
 exact vE (i:=a.idx) (t:=a.term) (cb:=a.aP) (cv:= .ref k) (g5.at hm) (g5.at cI.st) (g5.at cI.bb) hk i0 (some (.bytes (fy a.idx a.term a.aP))) (some (.ref H.length)) (d+2) λH6 e7 m7 k7=>
  K H6 k (aF rfl rfl (ae (bJ (aw (q:= .fn 90) (v:= .ref si) (aE rfl hm rfl) (bO cI.st) (aa rfl af) e0)) (ae (cF (an rfl rfl rfl) (ae (bJ e1) (ae (bJ (aw rfl (eX s1 64) af e2)) (ae (bJ (aw rfl (eX s2 64) af e3)) (ae (bJ (aw rfl (eX s3 37) af e4)) (ae (bZ (aw rfl (eX s4 19) af (pB (d:=d+3) s4))) aj))))))
   (ae (bJ rfl) (ae (eZ (an rfl rfl (ne_bytes.trans (by rw [aR lF];rfl))) (ae (bJ (cz (aa (v:= .bytes (dC xs)) (hc▸rfl) af) e6)) aj)) e7))))) (c6.kx (g5.at hm) k7) m7 (g5.kx.trans k7)
noncomputable def pS:List (Nat×List Op)->(By->Option By)->By->Option By
 | [],D=>D
 |p::r,D=>pS r (eU p.2 D)
noncomputable def fH:List (Nat×List Op)->Int
 | []=>0
 |p::r=>p.2.length+fH r
theorem I2 (cI:eQ H si di bi D bl aU aW)(hr:H[p.1]? =some (.list (p.2.map Op.sv)))(hk:∀o∈p.2,o.key∈U5)(hl:bl.length<1000)(Ro:p.1≠bi)(xY:∀q∈bl,q.1≠bi)(d:Nat){C:Prop}
  (K:∀H',run P (d+1) 87 [.ref si, .ref p.1] H= .ok .none H'->eQ H' si di bi (eU p.2 D) (bl++ [p]) aU (aW+p.2.length)->Kx [si,di,bi] H H'->C):C:=by
 refine aZ cI.dd λso d1 d2=> ?_
 refine K4 hk hr cI.st d1 d2 cI.bb (by rw [bI];exact hl) Ro d λH1 Ma e1 s1 q1 D1 b1 k1=> ?_
 have kk:∀{j:Nat} {ops:List Op},j≠bi->H[j]? =some (.list (ops.map Op.sv))->H1[j]? =some (.list (ops.map Op.sv)):=λ{j ops} hj e=>k1 _ _ (wz (cV e cI.st (fJ rfl)) (cV e d1 (Ne.symm (mX d2))) hj) e
 exact K H1 e1 ⟨s1,⟨Ma,q1,D1⟩,by rw [eJ];exact b1,λq hq=>(gi hq).elim (λhq=>⟨kk (xY q hq) (cI.at_ q hq).1,(cI.at_ q hq).2⟩) λh=>eF h▸⟨kk Ro hr,hk⟩⟩ k1
end
theorem qN:∀(xs ys:List (Nat×List Op)) (D:By->Option By),pS (xs++ys) D=pS ys (pS xs D)
 | [],_,_=>rfl
 |p::r,ys,D=>qN r ys (eU p.2 D)
theorem k9:∀(xs ys:List (Nat×List Op)),fH (xs++ys)=fH xs+fH ys
 | [],ys=>(Int.zero_add _).symm
 |p::r,ys=>by
  show (p.2.length:Int)+fH (r++ys)=p.2.length+fH r+fH ys
  rw [k9 r ys,Int.add_assoc]
noncomputable def TU:cA:= .cons (.expr (.eu (.loc 3) 60 (.cons (.loc 4) .nil))) .nil
noncomputable abbrev jQ:By->Option By:=λu8=>none
noncomputable def Vg (n:Nat)(f:Nat->Option SV):cR:= [f 0,f 1,f 2,some (.ref n),f 4]
noncomputable def Ze (f:Nat->Option SV)(x:Nat):Nat->Option SV
 |4=>some (.ref x)
 |k=>f k
theorem Fs {n:Nat}(d:Nat){C:Prop}(cS:List (Nat×List Op)):∀(done:List (Nat×List Op)) (H:HP) (f:Nat->Option SV),(∀p∈done++cS,p.1<n)->(done++cS).length<1000->eQ H n (n+1) (n+2) (pS done jQ) done 0 (fH done)->H[n+3]? =some (.list ((done++cS).map λp=> .ref p.1))->
  (∀p∈cS,H[p.1]? =some (.list (p.2.map Op.sv))/\∀o∈p.2,o.key∈U5)->
  (∀H' f',forLoop [4] (λl H=>aK P (run P (d+1)) TU l H) (.ref (n+3)) (cS.length+1) done.length (Vg n f) H= .next (Vg n f') H'->eQ H' n (n+1) (n+2) (pS (done++cS) jQ) (done++cS) 0 (fH (done++cS))->Kx [n,n+1,n+2] H H'->C)->C:=by
 induction cS with
 |nil=>
  intro done H f hp hl s h3 hb K
  have hit:=(cU (k:=done.length) h3).trans (congrArg some sz)
  rw [ch] at K
  exact K H f (ju hit) s Kx.refl
 |cons p t ih=>
  intro done H f hp hl s h3 hb K
  have hit:=(cU (k:=done.length) h3).trans (congrArg some vL)
  have Ua:=hl
  rw [aL] at Ua
  have bi:∀q:Nat×List Op,q.1<n->q.1≠n+2:=λq h=>cW (Nat.lt_of_lt_of_le h (gU n 2))
  have WL:=hp p (List.mem_append_right _ (.head _))
  refine I2 (p:=p) s (hb p (.head _)).1 (hb p (.head _)).2 (fM (gU _ _) Ua) (bi p WL) (λq hq=>bi q (hp q (List.mem_append_left _ hq))) d λH1 e1 s1 k1=> ?_
  have ea:eU p.2 (pS done jQ)=pS (done++ [p]) jQ:=(qN done [p] jQ).symm
  have eb:fH done+(p.2.length:Int)=fH (done++ [p]):=((k9 done [p]).trans (congrArg (fH done+ ·) (Int.add_zero _))).symm
  rw [ea,eb] at s1
  have Uu:=k1 _ _ (wz (by lia) (by lia) (by lia)) h3
  have hd:done++p::t=(done++ [p])++t:=(bX done [p] t).symm
  rw [hd] at Uu hl hp K
  refine ih (done++ [p]) H1 (Ze f p.1) hp hl s1 Uu (λq hq=>⟨k1 _ _ ?_ (hb q (.tail _ hq)).1,(hb q (.tail _ hq)).2⟩) λH2 f2 c1 c3 c4=> ?_
  ·have Tq:=hp q (List.mem_append_right _ hq)
   exact wz (cW Tq) (cW (Nat.lt_succ_of_lt Tq)) (bi q Tq)
  ·rw [aL (as:=done)] at c1
   exact K H2 f2 (fq hit rfl (ae (bZ (aw (q:= .fn 87) (v:= .ref n) rfl (bO s.st) (aa rfl af) e1)) aj) c1) c3 (k1.trans c4)
noncomputable def Ke (H H' :HP):Prop:=∀(i:Nat) (o:SO),H[i]? =some o->H'[i]? =some o
theorem Ke.trans {H H1 H2:HP}(a:Ke H H1)(b:Ke H1 H2):Ke H H2:=λi o e=>b i o (a i o e)
theorem Gr.ke (a:Gr H H1):Ke H H1:=λi o e=>a.at e
theorem Ke.kp (a:Ke H H1):Kp H H1:=λi o e u8=>a i o e
section
variable {H:HP}{si di bi:Nat}{aW:Int}{bl:List (Nat×List Op)}{D:By->Option By}
theorem Ad {r n:Nat}(h:H[r]? =some (.list vs)):f6 (.ref r) .none (.int n) H= .ok (.ref H.length) (H++ [SO.list (vs.take n)]):=by
 show (match H[r]? with
  |some (.list vs)=>(match lJ vs .none (.int n) with
   |some c=>dz.ok (SV.ref H.length) (H++ [SO.list c])
   |none=> .bad)
  |_=> .bad)=_
 rw [h]
 have:lJ vs .none (.int n)=some (vs.take n):=by
  show (if (0:Int)<=n then some (vs.take n) else none)=_
  rw [if_pos (fw n)]
 dsimp only
 rw [this]
theorem Tx {aU:Nat}{pick:Int}{keep:Nat}(cI:eQ H si di bi D bl aU aW)(hk:aU<=bl.length)(hl:bl.length<1000)(hp:(aU:Int)+pick%((bl.length:Int) - aU+1)=keep)(d:Nat){C:Prop}
  (K:∀H',run P (d+2) 92 [.ref si, .int pick] H= .ok (.ref H.length) H'->eQ H' H.length (H.length+1) (H.length+2) (pS (bl.take keep) jQ) (bl.take keep) keep (fH (bl.take keep))->Ke H H'->C):C:=by
 have Ms:keep<=bl.length:=by
  have:=Int.emod_lt_of_pos pick (show (0:Int)<(bl.length:Int) - aU+1 by lia)
  lia
 have e1:=vC d [some (.ref si),some (.int pick),some (.int keep),none,none] H
 have g1:Gr H (H++ [bH (H.length+1) (H.length+2) 0 0,SO.aM,SO.list []]):=⟨_,rfl⟩
 have e2:=Ad (n:=keep) (g1.at cI.bb)
 rw [aL,<-List.map_take] at e2
 have h3:((H++ [bH (H.length+1) (H.length+2) 0 0,SO.aM,SO.list []])++ [SO.list ((bl.take keep).map λp=> .ref p.1)])[H.length+3]? =some (.list ((bl.take keep).map λp=> .ref p.1)):=by
  rw [bX,eG (gU _ 3),Nat.add_sub_cancel_left];rfl
 have s0:eQ ((H++ [bH (H.length+1) (H.length+2) 0 0,SO.aM,SO.list []])++ [SO.list ((bl.take keep).map λp=> .ref p.1)]) H.length (H.length+1) (H.length+2) (pS [] jQ) [] 0 (fH []):=(oZ H []).gr ⟨_,rfl⟩
 have g2:=g1.trans (H2:=(H++ [bH (H.length+1) (H.length+2) 0 0,SO.aM,SO.list []])++ [SO.list ((bl.take keep).map λp=> .ref p.1)]) ⟨_,rfl⟩
 have lN:∀p∈bl.take keep,p.1<H.length:=λp hp=>(gw (cI.at_ p (List.mem_of_mem_take hp)).1).1
 refine Fs d (bl.take keep) [] _ (λk=>match k with|0=>some (.ref si)|1=>some (.int pick)|2=>some (.int keep)|_=>none) lN (fM (List.length_take_le' ..) hl) s0 h3 (λp hp=>⟨g2.at (cI.at_ p (List.mem_of_mem_take hp)).1,(cI.at_ p (List.mem_of_mem_take hp)).2⟩) λH2 f2 c1 c3 c4=> ?_
 rw [List.nil_append] at c3
 have e5:=FP c3.st c3.bb d
 rw [bI,List.length_take_of_le Ms] at e5
 have hN:fa (.ref (H.length+3)) ((H++ [bH (H.length+1) (H.length+2) 0 0,SO.aM,SO.list []])++ [SO.list ((bl.take keep).map λp=> .ref p.1)])=(bl.take keep).length:=(d0 h3).trans (bI _)
 have eA:=ca cI.bb
 rw [bI] at eA
 refine aZ c3.dd λso d1 d2=> ?_
 have Sl:cE .mod (.int pick) (.int ((bl.length:Int) - aU+1)) H= .ok (.int (pick%((bl.length:Int) - aU+1))) H:=if_pos (by lia)
 exact K _ (aF rfl rfl (ae (bJ (v:= .int keep) (aJ (aE rfl cI.st rfl) (aJ rfl (aJ (aJ (bq (aa (aE rfl cI.st rfl) af) eA) (aE rfl cI.st rfl) rfl) rfl rfl) Sl) (by rw [<-hp];rfl))) (ae (bJ e1)
  (ae (f_ (v:= .ref (H.length+3)) (Hf (aE rfl (g1.at cI.st) rfl) rfl rfl e2) (by rw [hN];exact c1)) (ae (bZ (aw (q:= .fn 88) (v:= .ref H.length) rfl (bO c3.st) af e5)) (aY (bK rfl))))))) ⟨eB c3.st,⟨so,(eM (cW (Nat.lt_succ_self _))).trans d1,d2⟩,(eM (cW (Nat.lt_add_of_pos_right (by decide)))).trans c3.bb,λp hp=>⟨(eM (Nat.ne_of_gt (lN p hp))).trans (c3.at_ p hp).1,(c3.at_ p hp).2⟩⟩ λi o e=>by
   have hi:=(gw e).1
   exact (eM (Nat.ne_of_gt hi)).trans (c4 i o (wz (cW hi) (cW (Nat.lt_succ_of_lt hi)) (cW (Nat.lt_succ_of_lt (Nat.lt_succ_of_lt hi)))) (g2.at e))
end
theorem BD:∀x:By,ig x x=false
 | []=>rfl
 |a::r=>by
  show (if a<a then true else if a=a then ig r r else false)=false
  rw [if_neg (by lia),if_pos rfl]
  exact BD r
theorem yz:∀{x y:By},ig x y=true->ig y x=false
 | [], [],h=>nomatch h
 | [],_::_,_=>rfl
 |_::_, [],h=>nomatch h
 |a::r,b::s,h=>by
  have h' :(if a<b then true else if a=b then ig r s else false)=true:=h
  show (if b<a then true else if b=a then ig s r else false)=false
  by_cases q:a<b
  ·rw [if_neg (by exact iP ‹_›),if_neg (by exact iO ‹_›)]
  ·rw [if_neg q] at h'
   by_cases z:a=b
   ·rw [if_pos z] at h'
    rw [if_neg (by lia),if_pos z.symm]
    exact yz h'
   ·rw [if_neg z] at h'
    exact xh h'
theorem GB (h:∀y∈l,ig x y=true):sN x l=x::l:=by
 cases l with
 |nil=>rfl
 |cons y r=>exact if_pos (h y (.head _))
theorem qZ (hp:p x=false):∀{U:List By},U.Pairwise (λa b=>ig a b=true)->x∈U->sN x (U.filter p)=U.filter (λk=>decide (k=x)||p k)
 | [],_,h=>jZ h
 |u::us,hU,hx=>by
  rw [List.pairwise_cons] at hU
  by_cases q:x=u
  ·subst q
   rw [List.filter_cons_of_neg (by rw [hp];decide),List.filter_cons_of_pos (by rw [bf rfl];rfl),GB (λy hy=>hU.1 y (List.mem_filter.mp hy).1)]
   congr 1
   apply List.filter_congr
   intro k hk
   have:¬k=x:=λe=>by
    have:=hU.1 k hk
    rw [e,BD] at this
    exact xh this
   rw [aR this,Bool.false_or]
  ·have Ve:x∈us:=(cH hx).resolve_left q
   have ih:=qZ hp hU.2 Ve
   by_cases z:p u=true
   ·rw [List.filter_cons_of_pos z,List.filter_cons_of_pos (by rw [z,Bool.or_true])]
    show (if ig x u then x::u::us.filter p else u::sN x (us.filter p))=_
    rw [if_neg (by rw [yz (hU.1 x Ve)];decide),ih]
   ·rw [List.filter_cons_of_neg z,List.filter_cons_of_neg (by rw [aR (Ne.symm q),Bool.false_or];exact z),ih]
theorem ph {U:List By}(hU:U.Pairwise (λa b=>ig a b=true)):∀{l:List By},l.Nodup->(∀k∈l,k∈U)->jv l=U.filter λk=>decide (k∈l)
 | [],_,_=>by
  rw [List.filter_eq_nil_iff.mpr (λa u8=>by simp)];rfl
 |x::r,nd,h=>by
  rw [List.nodup_cons] at nd
  show sN x (jv r)=_
  rw [ph hU nd.2 (λk hk=>h k (.tail _ hk)),qZ (by rw [aR nd.1]) hU (h x (.head _))]
  apply List.filter_congr
  intro k _
  by_cases q:k=x
  ·subst q
   rw [bf rfl,bf (p:=k∈k::r) List.mem_cons_self];rfl
  ·rw [aR q,Bool.false_or,decide_eq_decide,List.mem_cons]
   exact ⟨.inr,λz=>z.resolve_left q⟩
theorem yn {K:Type}[DecidableEq K]{k:K}:∀{es:List (K×SV)},(fR k es).isSome=true↔k∈es.map (·.1)
 | []=>⟨λh=>(nomatch h),λh=>(jZ h)⟩
 |p::r=>by
  show (if p.1=k then some p.2 else fR k r).isSome=true↔_
  rw [dY,List.mem_cons]
  by_cases q:p.1=k
  ·rw [if_pos q]
   exact ⟨λu8=> .inl q.symm,λu8=>rfl⟩
  ·rw [if_neg q,yn]
   exact ⟨.inr,λz=>z.resolve_left (Ne.symm q)⟩
theorem xk {U:List By}(hU:U.Pairwise (λa b=>ig a b=true))(hl:U.length<64)(hD:dU U so D){H:HP}{di:Nat}(hd:H[di]? =some so):Mine.bG Bi.sorted [.ref di] H= .ok (.ref H.length) (H++ [SO.list ((U.filter λk=>(D k).isSome).map .bytes)]):=by
 refine J6 hD.ex λes e h1 h2 h3=> ?_
 have hf:jv (es.map λz:By×SV=>z.1)=U.filter λk=>(D k).isSome:=by
  rw [ph hU h2 h3]
  apply List.filter_congr
  intro k _
  have z:=yn (es:=es) (k:=k)
  rw [h1,Option.isSome_map] at z
  by_cases q:k∈es.map (·.1)
  ·exact (bf q).trans (z.mpr q).symm
  ·exact (aR q).trans (Bool.eq_false_iff.mpr λy=>q (z.mp y)).symm
 show (match H[di]? with
   |some (.list vs)=>(match bT vs with
    |some l=>if l.length<64 then dz.ok (SV.ref H.length) (H++ [SO.list ((jK l).map SV.int)]) else .bad
    |none=> .bad)
   |some (.cg es)=>if es.length<64 then .ok (.ref H.length) (H++ [SO.list ((jv (es.map λz:By×SV=>z.1)).map SV.bytes)]) else .bad
   |some .aM=> .ok (.ref H.length) (H++ [SO.list []])
   |_=> .bad)=_
 rw [hd]
 rcases e with e|⟨e,e2⟩
 ·subst e
  dsimp only
  have:=sq h2 h3
  rw [bI] at this
  rw [if_pos (by exact fM ‹_› ‹_›),hf]
 ·subst e e2
  dsimp only
  rw [<-hf];rfl
noncomputable def kN (lo:Option By)(k:By):Bool:=match lo with
 |none=>false
 |some l=>ig k l
noncomputable def jg (hi:Option By)(k:By):Bool:=match hi with
 |none=>false
 |some h=> !ig k h
noncomputable def mf (D:By->Option By)(k:By):SV:= .tuple [.bytes k,ob (D k)]
noncomputable def ly (D:By->Option By)(lo hi:Option By)(ks:List By):List By:=ks.filter λk=> !kN lo k&& !jg hi k
noncomputable def OK:cA:= .cons (.ifs (.and (.cons (.cmp .gh (.loc 1) .none) (.cons (.cmp .lt (.loc 5) (.loc 1)) .nil))) (.cons .cont .nil) .nil) (.cons (.ifs (.and (.cons (.cmp .gh (.loc 2) .none) (.cons (.cmp .ge (.loc 5) (.loc 2)) .nil))) (.cons .cont .nil) .nil) (.cons (.expr (.eu (.loc 4) 1 (.cons (.tuple (.cons (.loc 5) (.cons (.sub (.attr (.loc 0) 40) (.loc 5)) .nil))) .nil))) .nil))
theorem wG {R:au}(h:gJ P R s l H= .cont l' H'):aK P R (.cons s r) l H= .cont l' H' :=by
 show (match gJ P R s l H with| .next l H=>aK P R r l H|o=>o)=_
 rw [h]
theorem Ky (h:ig a b=q):bV .lt (.bytes a) (.bytes b) H=some q:=congrArg some h
theorem KD (h:ig a b=q):bV .ge (.bytes a) (.bytes b) H=some (!q):=congrArg (λz=>some (!z)) h
theorem Gm {R:au}{si f:Nat}{lo hi:Option By}:gK P R (.and (.cons (.cmp .gh (.loc 1) .none) (.cons (.cmp .lt (.loc 5) (.loc 1)) .nil))) [some (.ref si),some (ob lo),some (ob hi),some .none,some (.ref f),some (.bytes k)] H= .ok (kN lo k) H:=by
 cases lo with
 |none=>exact cM (iU (an rfl rfl rfl))
 |some b=>
  refine cM (dP (an rfl rfl rfl) ?_)
  unfold kN
  dsimp only
  cases q:ig k b with
  |true=>exact dP (an (x:= .bytes k) (y:= .bytes b) rfl rfl (Ky q)) fP
  |false=>exact iU (an (x:= .bytes k) (y:= .bytes b) rfl rfl (Ky q))
theorem Ep {R:au}{si f:Nat}{lo hi:Option By}:gK P R (.and (.cons (.cmp .gh (.loc 2) .none) (.cons (.cmp .ge (.loc 5) (.loc 2)) .nil))) [some (.ref si),some (ob lo),some (ob hi),some .none,some (.ref f),some (.bytes k)] H= .ok (jg hi k) H:=by
 cases hi with
 |none=>exact cM (iU (an rfl rfl rfl))
 |some b=>
  refine cM (dP (an rfl rfl rfl) ?_)
  unfold jg
  dsimp only
  cases q:ig k b with
  |true=>exact iU (an (x:= .bytes k) (y:= .bytes b) rfl rfl (KD q))
  |false=>exact dP (an (x:= .bytes k) (y:= .bytes b) rfl rfl (KD q)) fP
section
variable {H:HP}{si di bi:Nat}{aU aW:Int}{so:SO}{D:By->Option By}{lo hi:Option By}
theorem yp {k v:By}(hd:H[di]? =some so)(hD:dU U so D)(hv:D k=some v):dH (.ref di) (.bytes k) H= .ok (.bytes v) H:=by
 refine J6 hD.ex λes e h1 h2 h3=> ?_
 have hg:=oW hD k
 rw [hv] at hg
 unfold dH
 dsimp only
 rw [hd]
 rcases e with e|⟨e,e2⟩<;>(subst e;dsimp only;rw [hg];rfl)
theorem mT (R:au)(hs:H[si]? =some (bH di bi aU aW))(hd:H[di]? =some so)(hD:dy so D)(Rh:∀k∈ks,(D k).isSome=true)(hl:ks.length<64):∀(cS done:List By) (d6:List SV) (z:Option SV),ks=done++cS->d6.length<=done.length->
  ∃l',forLoop [5] (λl H=>aK P R OK l H) (.ref (H.length+1)) (cS.length+1) done.length [some (.ref si),some (ob lo),some (ob hi),some .none,some (.ref H.length),z] (H++ .list d6:: .list (ks.map .bytes):: [])= .next l' (H++ .list (d6++(ly D lo hi cS).map (mf D)):: .list (ks.map .bytes):: [])/\l'[4]? =some (some (.ref H.length))
 | [],done,d6,z,e,ha=>by
  rw [ch] at e
  subst e
  refine ⟨_,(ju ?_).trans (by rw [show (ly D lo hi []).map (mf D)= [] from rfl,ch]),rfl⟩
  rw [cU sb,List.getElem?_eq_none]
  rw [bI];exact bS _
 |k::t,done,d6,z,e,ha=>by
  have hit:cu (.ref (H.length+1)) done.length (H++ .list d6:: .list (ks.map .bytes):: [])=some (some (.bytes k)):=by
   rw [cU sb,e,eJ,eG (by rw [bI];exact bS _),bI,Nat.sub_self]
   rfl
  have e' :ks=(done++ [k])++t:=by rw [e,bX];rfl
  by_cases q1:kN lo k=true
  ·obtain ⟨l',h1,h2⟩:=mT R hs hd hD Rh hl t (done++ [k]) d6 (some (.bytes k)) e' (by rw [aL];lia)
   rw [aL (as:=done)] at h1
   rw [show ly D lo hi (k::t)=ly D lo hi t from List.filter_cons_of_neg (by rw [q1];exact Bool.false_ne_true)]
   exact ⟨l',E8 hit rfl (wG (eZ (Gm.trans (by rw [q1])) (wG rfl))) h1,h2⟩
  have q1:kN lo k=false:=by simpa using q1
  by_cases q2:jg hi k=true
  ·obtain ⟨l',h1,h2⟩:=mT R hs hd hD Rh hl t (done++ [k]) d6 (some (.bytes k)) e' (by rw [aL];lia)
   rw [aL (as:=done)] at h1
   rw [show ly D lo hi (k::t)=ly D lo hi t from List.filter_cons_of_neg (by rw [q1,q2];exact Bool.false_ne_true)]
   exact ⟨l',E8 hit rfl (ae (cF (Gm.trans (by rw [q1])) aj) (wG (eZ (Ep.trans (by rw [q2])) (wG rfl)))) h1,h2⟩
  have q2:jg hi k=false:=by simpa using q2
  obtain ⟨v,hv⟩:=Option.isSome_iff_exists.mp (Rh k (by rw [e];simp))
  obtain ⟨l',h1,h2⟩:=mT R hs hd hD Rh hl t (done++ [k]) (d6++ [mf D k]) (some (.bytes k)) e' (by rw [aL,aL];exact Nat.add_le_add_right ha 1)
  rw [aL (as:=done),bX] at h1
  have g:Gr H (H++SO.list d6:: .list (ks.map .bytes):: []):=⟨_,rfl⟩
  have e3:=jT (R:=R) (H:=H++SO.list d6:: .list (ks.map .bytes):: []) (v:=mf D k) nE (by
   have:done.length<=ks.length:=by rw [e,aL];exact gU _ _
   exact dR (fM (cy ha this) hl) (by decide))
  rw [yb] at e3
  have ev:mf D k= .tuple [.bytes k, .bytes v]:=by unfold mf;rw [hv];rfl
  rw [show ly D lo hi (k::t)=k::ly D lo hi t from List.filter_cons_of_pos (by rw [q1,q2];rfl)]
  refine ⟨l',fq hit rfl (ae (cF (Gm.trans (by rw [q1])) aj) (ae (cF (Ep.trans (by rw [q2])) aj) (ae (bZ (aw rfl (bO nE) (aa (v:=mf D k) (ev▸cX (aa rfl (aa (aN (aE rfl (g.at hs) rfl) rfl (yp (g.at hd) hD hv)) af))) af) e3)) aj))) h1,h2⟩
theorem Pk:U5.Pairwise (λa b=>ig a b=true):=by decide
theorem yw (hs:H[si]? =some (bH di bi aU aW))(hd:H[di]? =some so)(hD:dy so D)(d:Nat):run P (d+1) 91 [.ref si,ob lo,ob hi, .none] H= .ok (.ref H.length) (H++ .list ((ly D lo hi (U5.filter λk=>(D k).isSome)).map (mf D)):: .list ((U5.filter λk=>(D k).isSome).map .bytes):: []):=by
 refine aZ (mT (run P d) (lo:=lo) (hi:=hi) (ks:=U5.filter λk=>(D k).isSome) hs hd hD (λk hk=>(List.mem_filter.mp hk).2) (fM (List.length_filter_le ..) (by decide)) _ [] [] none rfl (bS _)) λl' h1 h2=> ?_
 have g:Gr H (H++ [SO.list []]):=⟨_,rfl⟩
 have e1:=xk Pk (by decide) hD (g.at hd)
 rw [aL,ng,List.nil_append] at e1
 have hN:fa (.ref (H.length+1)) (H++ .list []:: .list ((U5.filter λk=>(D k).isSome).map .bytes):: [])=(U5.filter λk=>(D k).isSome).length:=by
  show (match (_:HP)[H.length+1]? with|some (.list vs)=>vs.length|_=>0)=_
  rw [sb]
  exact bI _
 exact aF rfl rfl (ae (cF (an rfl rfl rfl) aj) (ae (bJ (bE af)) (ae (f_ (v:= .ref (H.length+1)) (bq (aa (aE rfl (g.at hs) rfl) af) e1) (by rw [hN];exact h1)) (aY (bK (bc h2))))))
theorem Mr {n:Int}(d:Nat):run P (d+1) 91 [.ref si,x,y, .int n] H= .exc 4 H:=
 lf rfl rfl rfl (gZ (eZ (an rfl rfl rfl) (gZ (qE rfl))))
end
noncomputable def pv (p:By×By):SV:= .tuple [.bytes p.1, .bytes p.2]
noncomputable def lZ (k:By)(o:Option By):List (By×By):=match o with
 |none=> []
 |some v=> [(k,v)]
noncomputable def oq (D:By->Option By)(lo hi:Option By)(k:By):List (By×By):=match D k with
 |none=> []
 |some v=>if (kN lo k||jg hi k)=true then [] else [(k,v)]
theorem kK {lo hi:Option By}(h:(kN lo k||jg hi k)=true):oq D lo hi k= []:=by
 unfold oq
 cases D k with
 |none=>rfl
 |some v=>exact if_pos h
theorem jY {lo hi:Option By}(e:D k=o)(h:(kN lo k||jg hi k)=false):oq D lo hi k=lZ k o:=by
 unfold oq
 rw [e]
 cases o with
 |none=>rfl
 |some v=>exact if_neg (by rw [h];decide)
theorem mK {lo hi:Option By}:∀U:List By,(ly D lo hi (U.filter λk=>(D k).isSome)).map (mf D)=((U.map (oq D lo hi)).flatten).map pv
 | []=>rfl
 |k::r=>by
  rw [dY,List.flatten_cons,eJ,<-mK r]
  cases h:D k with
  |none=>
   rw [List.filter_cons_of_neg (by rw [h];exact Bool.false_ne_true),show oq D lo hi k= [] by unfold oq;rw [h]]
   rfl
  |some v=>
   rw [List.filter_cons_of_pos (by rw [h];rfl)]
   cases z:(kN lo k||jg hi k) with
   |true=>
    rw [kK z]
    unfold ly
    rw [List.filter_cons_of_neg (by rw [<-Bool.not_or,z];decide)]
    rfl
   |false=>
    rw [jY h z]
    unfold ly
    rw [List.filter_cons_of_pos (by rw [<-Bool.not_or,z];rfl)]
    show mf D k::_=pv (k,v)::_
    congr 1
    unfold mf pv
    rw [h];rfl
theorem LV (a:AS):fV a [97]=some (fy a.idx a.term a.aP):=if_pos rfl
theorem vV (a:AS):fV a [100]=a.now []:=(if_neg (by decide)).trans (if_pos rfl)
theorem vU (a:AS):fV a [100,107]=a.now [107]:=(if_neg (by decide)).trans ((if_neg (by decide)).trans (if_pos rfl))
theorem Ce (a:AS):(U5.map (oq (fV a) (some [100]) (some [101]))).flatten=lZ [100] (a.now [])++lZ [100,107] (a.now [107]):=by
 show oq _ _ _ [97]++(oq _ _ _ [100]++(oq _ _ _ [100,107]++(oq _ _ _ (dc false)++(oq _ _ _ (dc true)++ []))))=_
 rw [kK rfl,jY (vV a) rfl,jY (vU a) rfl,kK rfl,kK rfl,ch,ch,ch]
 rfl
theorem B1 (a:AS):(U5.map (oq (fV a) (some [115]) (some [116]))).flatten=lZ (dc false) ((a.S false).map ff)++lZ (dc true) ((a.S true).map ff):=by
 show oq _ _ _ [97]++(oq _ _ _ [100]++(oq _ _ _ [100,107]++(oq _ _ _ (dc false)++(oq _ _ _ (dc true)++ []))))=_
 rw [kK rfl,kK rfl,kK rfl,jY (jy a false) rfl,jY (jy a true) rfl,ch]
 rfl
theorem HA (a:AS):(U5.map (oq (fV a) none none)).flatten=([97],fy a.idx a.term a.aP)::(lZ [100] (a.now [])++(lZ [100,107] (a.now [107])++(lZ (dc false) ((a.S false).map ff)++lZ (dc true) ((a.S true).map ff)))):=by
 show oq _ _ _ [97]++(oq _ _ _ [100]++(oq _ _ _ [100,107]++(oq _ _ _ (dc false)++(oq _ _ _ (dc true)++ []))))=_
 rw [jY (LV a) rfl,jY (vV a) rfl,jY (vU a) rfl,jY (jy a false) rfl,jY (jy a true) rfl,ch]
 rfl
theorem Nl (lo hi:Option By):(U5.map (oq (λu8=>none) lo hi)).flatten= []:=rfl
theorem LT {H G:HP}(h:G[0]? =some o):(H++a::G)[H.length+1]? =some o:=by
 rw [eG (gU _ 1),Nat.add_sub_cancel_left]
 exact h
theorem Hj {α:Type}{enc g:α->SV}{F:(Nat->Option SV)->cR}{B:(Nat->Option SV)->α->cR}{xs:List α}(hi:∀f x,kC (F f) is (enc x)=some (B f x))
  (hb:∀x∈xs,∀f d6 G,d6.length<64->∀{C:Prop},(∀f' G',body (B f x) (H++ .list d6::G)= .next (F f') (H++ .list (d6++ [g x])::(G++G'))->C)->C) {C:Prop} (cS:List α):
  ∀(done:List α) (d6:List SV) (G:HP) (f:Nat->Option SV),xs=done++cS->G[0]? =some (.list (xs.map enc))->d6.length+cS.length<64->
   (∀f' G',forLoop is body (.ref (H.length+1)) (cS.length+1) done.length (F f) (H++ .list d6::G)= .next (F f') (H++ .list (d6++cS.map g)::(G++G'))->C)->C:=by
 induction cS with
 |nil=>
  intro done d6 G f e hG hl K
  have hit:=cU (k:=done.length) (LT (H:=H) (a:= .list d6) hG)
  rw [e,sz] at hit
  exact K f [] ((ju hit).trans (by rw [List.map_nil,ch,ch]))
 |cons x t ih=>
  intro done d6 G f e hG hl K
  have hit:=cU (k:=done.length) (LT (H:=H) (a:= .list d6) hG)
  rw [e,vL] at hit
  rw [dq] at hl
  refine hb x (e▸List.mem_append_right _ (.head _)) f d6 G (by lia) λf1 G1 b2=> ?_
  refine ih (done++ [x]) (d6++ [g x]) (G++G1) f1 (e.trans (bX done [x] t).symm) ((iM (gw hG).1).trans hG) (by rw [aL];show d6.length+1+t.length<64;lia) λf2 G2 c1=> ?_
  rw [aL (as:=done),bX,bX] at c1
  exact K f2 (G1++G2) (fq hit (hi f x) b2 c1)
theorem Bx {α:Type}{enc g:α->SV}{R:au}{F:(Nat->Option SV)->cR}{B:(Nat->Option SV)->α->cR}{xs:List α}(hi:∀f x,kC (F f) is (enc x)=some (B f x))
  (hb:∀x∈xs,∀f d6 G,d6.length<64->∀{C:Prop},(∀f' G',aK P R b (B f x) (H++ .list d6::G)= .next (F f') (H++ .list (d6++ [g x])::(G++G'))->C)->C) (hG:G[0]? =some (.list (xs.map enc))) (hl:xs.length<64) (f:Nat->Option SV) {C:Prop}
  (K:∀f' G',forLoop is (λl H=>aK P R b l H) (.ref (H.length+1)) (fa (.ref (H.length+1)) (H++ .list []::G)+1) 0 (F f) (H++ .list []::G)= .next (F f') (H++ .list (xs.map g)::(G++G'))->C):C:=
 Hj hi hb xs [] [] G f rfl hG (by rw [List.length_nil,Nat.zero_add];exact hl) λf' G' h=>K f' G' (((d0 (LT hG)).trans (bI _))▸h)
noncomputable def dQ (a:AS):List (By×By):=lZ [] (a.now [])++lZ [107] (a.now [107])
noncomputable def pp (a:AS):List (Bool×(Int×Bool×By)):=(match a.S false with
 |none=> []
 |some s=> [(false,s)])++(match a.S true with
 |none=> []
 |some s=> [(true,s)])
noncomputable def pn (p:Bool×(Int×Bool×By)):SV:= .tuple [.int (cl p.1), .int p.2.1, .bool p.2.2.1, .bytes p.2.2.2]
theorem KT {x:Int}:f6 (.bytes (x::b)) (.int 1) .none H= .ok (.bytes b) H:=rfl
theorem z6 (w:Bool)(d:Nat)(H:HP):run P (d+1) 66 [.bytes (dc w)] H= .ok (.int (cl w)) H:=by cases w<;>rfl
theorem E0 (a:AS):(lZ [100] (a.now [])++lZ [100,107] (a.now [107])).map pv=(dQ a).map λp=>pv (100::p.1,p.2):=by
 unfold dQ
 cases a.now []<;>cases a.now [107]<;>rfl
theorem ID (a:AS):(lZ (dc false) ((a.S false).map ff)++lZ (dc true) ((a.S true).map ff)).map pv=(pp a).map λp=>pv (dc p.1,ff p.2):=by
 unfold pp
 cases a.S false<;>cases a.S true<;>rfl
theorem Hs (a:AS):(dQ a).length<64:=by unfold dQ;cases a.now []<;>cases a.now [107]<;>exact Nat.le_of_ble_eq_true rfl
theorem JJ (a:AS):(pp a).length<64:=by unfold pp;cases a.S false<;>cases a.S true<;>exact Nat.le_of_ble_eq_true rfl
theorem MN (h:p∈pp a):a.S p.1=some p.2:=by
 unfold pp at h
 rcases gi h with h|h
 ·cases q:a.S false with
  |none=>rw [q] at h;exact jZ h
  |some s=>rw [q] at h;rw [eF h];exact q
 ·cases q:a.S true with
  |none=>rw [q] at h;exact jZ h
  |some s=>rw [q] at h;rw [eF h];exact q
noncomputable def RI (m n:Nat)(f:Nat->Option SV):cR:= [some (.ref m),some (.ref n),f 2,f 3]
noncomputable def SB (m n:Nat)(f:Nat->Option SV):cR:= [some (.ref m),some (.ref n),f 2,f 3,f 4,f 5,f 6]
section
variable {H:HP}{si di bi mi:Nat}{aU aW aO:Int}{sync:Bool}{bl:List (Nat×List Op)}{a:AS}
theorem K8 (hm:H[mi]? =some (aX si a.idx a.term a.aP aO sync))(cI:eQ H si di bi (fV a) bl aU aW)(d:Nat){C:Prop}(K:∀H' k,run P (d+2) 81 [.ref mi] H= .ok (.ref k) H'->H'[k]? =some (.list ((dQ a).map pv))->Gr H H'->C):C:=by
 have g:Gr H (H++ [SO.list []]):=⟨_,rfl⟩
 refine aZ cI.dd λso d1 d2=> ?_
 have e1:=yw (lo:=some [100]) (hi:=some [101]) (g.at cI.st) (g.at d1) d2 d
 rw [mK,Ce,aL,ng,E0] at e1
 refine Bx (R:=run P (d+1)) (enc:=λp:By×By=>pv (100::p.1,p.2)) (g:=pv) (is:= [2,3]) (b:= .cons (.expr (.eu (.loc 1) 1 (.cons (.tuple (.cons (.slice (.loc 2) (.bG .len (.cons (.bytes [100]) .nil)) .none) (.cons (.loc 3) .nil))) .nil))) .nil) (H:=H) (xs:=dQ a) (F:=RI mi H.length) (B:=λf p=>dJ (RI mi H.length f) [2,3] [.bytes (100::p.1), .bytes p.2])
  (G:= []++ [SO.list ((dQ a).map λp=>pv (100::p.1,p.2)), .list ((U5.filter λk=>(fV a k).isSome).map .bytes)]) (λu8 u8=>rfl) (λp u8 f d6 G ha C k=> ?_) rfl (Hs a) (λu8=>none) λf' G' h1=>K _ H.length (aF rfl rfl (ae (bJ (bE af)) (ae (f_ (v:= .ref (H.length+1)) (aw (q:= .fn 91) (v:= .ref si) (aE rfl (g.at hm) rfl) (bO (g.at cI.st)) (aa rfl (aa rfl (aa rfl af))) e1) h1) (aY (bK rfl))))) nE ⟨_,rfl⟩
 have e2:=jT (R:=run P (d+1)) (H:=H++SO.list d6::G) (v:=pv p) nE (dR ha (by decide))
 rw [yb] at e2
 exact k _ [] ((ch G).symm▸nc (RI mi H.length) (ae (bZ (aw rfl (bO nE) (aa (cX (aa (Hf (x:= .bytes (100::p.1)) rfl rfl rfl KT) (aa (v:= .bytes p.2) rfl af))) af) e2)) aj) rfl)
theorem zS (hm:H[mi]? =some (aX si a.idx a.term a.aP aO sync))(cI:eQ H si di bi (fV a) bl aU aW)(ha:nX a)(d:Nat){C:Prop}(K:∀H' k,run P (d+5) 82 [.ref mi] H= .ok (.ref k) H'->H'[k]? =some (.list ((pp a).map pn))->Gr H H'->C):C:=by
 have g:Gr H (H++ [SO.list []]):=⟨_,rfl⟩
 refine aZ cI.dd λso d1 d2=> ?_
 have e1:=yw (lo:=some [115]) (hi:=some [116]) (g.at cI.st) (g.at d1) d2 (d+3)
 rw [mK,B1,aL,ng,ID] at e1
 refine Bx (R:=run P (d+4)) (enc:=λp:Bool×(Int×Bool×By)=>pv (dc p.1,ff p.2)) (g:=pn) (is:= [2,3]) (b:= .cons (.j4 (.tup [4,5,6]) (.fS 68 (.cons (.loc 3) .nil))) (.cons (.expr (.eu (.loc 1) 1 (.cons (.tuple (.cons (.fS 66 (.cons (.loc 2) .nil)) (.cons (.loc 4) (.cons (.loc 5) (.cons (.loc 6) .nil))))) .nil))) .nil)) (H:=H) (xs:=pp a) (F:=SB mi H.length) (B:=λf p=>dJ (SB mi H.length f) [2,3] [.bytes (dc p.1), .bytes (ff p.2)])
  (G:= []++ [SO.list ((pp a).map λp=>pv (dc p.1,ff p.2)), .list ((U5.filter λk=>(fV a k).isSome).map .bytes)]) (λu8 u8=>rfl) (λp hp f d6 G hl C k=> ?_) rfl (JJ a) (λu8=>none) λf' G' h1=>K _ H.length (aF rfl rfl (ae (bJ (bE af)) (ae (f_ (v:= .ref (H.length+1)) (aw (q:= .fn 91) (v:= .ref si) (aE rfl (g.at hm) rfl) (bO (g.at cI.st)) (aa rfl (aa rfl (aa rfl af))) e1) h1) (aY (bK rfl))))) nE ⟨_,rfl⟩
 refine rm ((ha.S p.1).ok _ (MN hp)) λo1 o2 o3=> ?_
 obtain ⟨H2,e2,G2,q2⟩:=lr (op:=p.2.2.1) o1 o2 o3 d (H++SO.list d6::G)
 rw [q2,ng] at e2
 have e3:=jT (R:=run P (d+4)) (H:=H++SO.list d6::(G++G2)) (v:=pn p) nE (dR hl (by decide))
 rw [yb] at e3
 exact k _ G2 (nc (SB mi H.length) (ae (lu (cz (aa (v:= .bytes (ff p.2)) rfl af) e2) rfl) (ae (bZ (aw rfl (bO nE) (aa (cX (aa (cz (aa (v:= .bytes (dc p.1)) rfl af) (z6 p.1 (d+3) _)) (aa rfl (aa rfl (aa rfl af))))) af) e3)) aj)) rfl)
theorem PE (hm:H[mi]? =some (aX si a.idx a.term a.aP aO sync))(cI:eQ H si di bi (fV a) bl aU aW)(ha:nX a)(d:Nat):∃H',run P (d+6) 83 [.ref mi] H= .ok (.tuple [.int a.idx, .int a.term, .bytes a.aP, .tuple ((dQ a).map pv), .tuple ((pp a).map pn)]) H' /\Gr H H' :=by
 refine K8 hm cI (d+3) λH1 k1 e1 h1 g1=>zS (g1.at hm) (cI.gr g1) ha d λH2 k2 e2 h2 g2=> ?_
 exact ⟨H2,aF rfl rfl (aY (bK (cX (aa (aE rfl hm rfl) (aa (aE rfl hm rfl) (aa (aE rfl hm rfl) (aa (bq (aa (aw (q:= .fn 81) (v:= .ref mi) (R:=run P (d+5)) rfl (bO hm) af e1) af) (fT h1)) (aa (bq (aa (aw (q:= .fn 82) (v:= .ref mi) (R:=run P (d+5)) rfl (bO (g1.at hm)) af e2) af) (fT h2)) af)))))))),g1.trans g2⟩
noncomputable def ur (s:kX):SV:=match s with
 |none=> .none
 |some s=>if s.2.1 then .tuple [.int s.1, .bytes s.2.2] else .none
theorem uW {w:Bool}(hm:H[mi]? =some (aX si a.idx a.term a.aP aO sync))(cI:eQ H si di bi (fV a) bl aU aW)(ha:nX a)(d:Nat):∃H',run P (d+6) 80 [.ref mi, .int (cl w)] H= .ok (ur (a.S w)) H' /\Gr H H' :=by
 refine aZ cI.dd λso d1 d2=> ?_
 refine aZ (pg (w:=w) (S:=a.S w) hm cI.st d1 d2 (jy a w) (ha.S w) d) λH1 e1 g1=> ?_
 refine ⟨H1, ?_,g1⟩
 have hc:cY (a.S w)=false->ur (a.S w)= .none:=λq=>by
  unfold ur
  unfold cY at q
  cases z:a.S w with
  |none=>rfl
  |some s=>
   rw [z] at q
   exact if_neg (by rw [show s.2.1=false from q];decide)
 have ho:cY (a.S w)=true->ur (a.S w)= .tuple [.int (cG (a.S w)), .bytes (f0 (a.S w))]:=λq=>by
  unfold ur
  unfold cY at q
  cases z:a.S w with
  |none=>rw [z] at q;exact xh q
  |some s=>
   rw [z] at q
   exact if_pos q
 cases q:cY (a.S w) with
 |false=>
  rw [q] at e1
  rw [hc q]
  exact aF rfl rfl (ae (lu (aw (q:= .fn 79) (v:= .ref mi) rfl (bO hm) (aa rfl af) e1) rfl) (aY (eZ (mx (q:=false) rfl) (aY (bK rfl)))))
 |true=>
  rw [q] at e1
  rw [ho q]
  exact aF rfl rfl (ae (lu (aw (q:= .fn 79) (v:= .ref mi) rfl (bO hm) (aa rfl af) e1) rfl) (ae (cF (mx (q:=true) rfl) aj) (aY (bK (cX (aa rfl (aa rfl af)))))))
end
theorem qJ (d:Nat)(H:HP):run P (d+1) 93 [] H= .ok (.ref H.length) (H++ [.list [.int 5, .int 300]]):=aF rfl rfl (aY (bK (bE (aa rfl (aa rfl af)))))
theorem xi (d:Nat)(H:HP):run P (d+1) 94 [] H= .ok (.ref H.length) (H++ [.list [.bytes [], .bytes [107]]]):=aF rfl rfl (aY (bK (bE (aa rfl (aa rfl af)))))
noncomputable def pT:List Int:= [4,1,3,3,2,4,6,5,0,3]
theorem Dg (d:Nat)(H:HP):run P (d+1) 95 [] H= .ok (.ref H.length) (H++ [.list (iL pT)]):=aF rfl rfl (aY (bK (bE rfl)))
theorem fE {a m:Int}(h0:0<m)(h1:m<1000000000):cE .mod (.int a) (.int m) H= .ok (.int (a%m)) H:=if_pos ⟨h0,h1⟩
theorem mQ {a m:Int}(h0:0<m)(h1:m<1000000000):cE .fdiv (.int a) (.int m) H= .ok (.int (a/m)) H:=if_pos ⟨h0,h1⟩
theorem JB {a m:Int}(h0:a.natAbs<4294967296):cE .mul (.int a) (.int m) H= .ok (.int (a*m)) H:=if_pos h0
theorem gz {r k:Nat}(h:H[r]? =some (.list vs))(hv:vs[k]? =some v):dH (.ref r) (.int k) H= .ok v H:=by
 have hk:=(gw hv).1
 unfold dH
 dsimp only
 rw [h]
 dsimp only
 have h1:cP (k:Int) vs.length=true:=by
  unfold cP
  rw [bf (by lia),bf (by exact Int.ofNat_lt.mpr ‹_›)];rfl
 have h2:cw (k:Int) vs.length=k:=by
  unfold cw
  rw [if_pos (fw _)];rfl
 rw [h1,h2,hv]
noncomputable def HC (ns:List Int)(i:Nat):Int:=ns.getD (i%ns.length) 0+31*((i/ns.length:Nat):Int)
theorem yN {r:Nat}(h:H[r]? =some (.list (iL ns)))(h0:ns.length≠0)(h1:ns.length<1000)(i:Nat)(d:Nat):run P (d+1) 96 [.ref r, .int i] H= .ok (.int (HC ns i)) H:=by
 have hl:=ca h
 rw [show (iL ns).length=ns.length from bI _] at hl
 have hm:cE .mod (.int i) (.int ns.length) H= .ok (.int ((i%ns.length:Nat):Int)) H:=fE (by exact iH ‹_›) (by exact iF ‹_› rfl)
 have hd:cE .fdiv (.int i) (.int ns.length) H= .ok (.int ((i/ns.length:Nat):Int)) H:=mQ (by exact iH ‹_›) (by exact iF ‹_› rfl)
 have hx:i%ns.length<ns.length:=Nat.mod_lt _ (by exact Nat.pos_of_ne_zero ‹_›)
 have hv:(iL ns)[i%ns.length]? =some (.int (ns.getD (i%ns.length) 0)):=by
  unfold iL
  rw [hV,List.getD_eq_getElem?_getD,eW hx];rfl
 exact aF rfl rfl (aY (bK (aJ (aN rfl (aJ rfl (bq (aa rfl af) hl) hm) (gz h hv)) (aJ rfl (aJ rfl (bq (aa rfl af) hl) hd) (JB (by decide))) rfl)))
theorem oi {n:Int}(h0:0<=n)(h1:n<16384)(d:Nat)(H:HP):∃H',run P (d+1) 97 [.int n] H= .ok (.bytes (vb n)) H' /\Gr H H' :=by
 unfold vb
 by_cases q:n<128
 ·rw [if_pos q]
  exact ⟨_,aF rfl rfl (aY (eZ (an rfl rfl (gv (bf q))) (aY (bK (bq (aa (bE (aa rfl af)) af) (cJ (dW ..) rfl (j9 h0 (by exact iB ‹_› rfl)))))))),⟨_,rfl⟩⟩
 ·rw [if_neg q]
  have ho:lG [n%128+128,n/128]=true:=by
   show (decide (0<=n%128+128)&&decide (n%128+128<256)&&(decide (0<=n/128)&&decide (n/128<256)&&true))=true
   rw [bf (by lia),bf (by lia),bf (by lia),bf (by lia)];rfl
  exact ⟨_,aF rfl rfl (ae (cF (an rfl rfl (gv (aR q))) aj) (aY (bK (bq (aa (bE (aa (aJ (aJ rfl rfl (fE (by decide) (by decide))) rfl rfl) (aa (aJ rfl rfl (mQ (by decide) (by decide))) af))) af) (cJ (dW ..) rfl ho))))),⟨_,rfl⟩⟩
theorem Du (ho:∀b,o=some b->b.length<200)(d:Nat)(H:HP):∃H',run P (d+1) 98 [ob o] H= .ok (.bytes (mb o)) H' /\Gr H H' :=by
 cases o with
 |none=>exact ⟨H,aF rfl rfl (aY (eZ (an rfl rfl rfl) (aY (bK rfl)))),Gr.refl⟩
 |some b=>
  have hb:=ho b rfl
  have TK:lG [1,(b.length:Int)]=true:=by
   show (true&&(decide ((0:Int)<=b.length)&&decide ((b.length:Int)<256)&&true))=true
   rw [bf (by exact fw _),bf (by exact iF ‹_› rfl)];rfl
  have e1:cE .add (.bytes [1,(b.length:Int)]) (.bytes b) (H++ [SO.list [.int 1, .int b.length]])= .ok (.bytes ([1,(b.length:Int)]++b)) (H++ [SO.list [.int 1, .int b.length]]):=if_pos (by show 2+b.length<=4096;lia)
  exact ⟨_,aF rfl rfl (ae (cF (an rfl rfl rfl) aj) (aY (bK (aJ (bq (aa (bE (aa rfl (aa (bq (aa rfl af) qB) af))) af) (cJ (dW ..) rfl TK)) rfl e1)))),⟨_,rfl⟩⟩
noncomputable def qS:Nat->List SV->List (Int×SV)
 |_, []=> []
 |i,v::r=>((i:Int),v)::qS (i+1) r
noncomputable def qD (vs:List SV):SO:=match vs with
 | []=> .aM
 |v::r=> .dB (qS 0 (v::r))
theorem yf:∀(vs:List SV) (i k:Nat),fR ((i+k:Nat):Int) (qS i vs)=vs[k]?
 | [],_,_=>rfl
 |v::r,i,k=>by
  show (if (i:Int)=((i+k:Nat):Int) then some v else fR ((i+k:Nat):Int) (qS (i+1) r))=_
  cases k with
  |zero=>exact if_pos rfl
  |succ k=>
   rw [if_neg (by lia),show i+(k+1)=i+1+k by lia,yf r (i+1) k]
   rfl
theorem xl:∀(vs:List SV) (i:Nat) (v:SV),kZ ((i+vs.length:Nat):Int) v (qS i vs)=qS i (vs++ [v])
 | [],_,_=>rfl
 |u::r,i,v=>by
  show (if (i:Int)=((i+(r.length+1):Nat):Int) then _ else ((i:Int),u)::kZ ((i+(r.length+1):Nat):Int) v (qS (i+1) r))=_
  rw [if_neg (by lia),show i+(r.length+1)=i+1+r.length by lia,xl r (i+1) v]
  rfl
theorem xW:∀(vs:List SV) (i:Nat),(qS i vs).length=vs.length
 | [],_=>rfl
 |_::r,i=>congrArg (·+1) (xW r (i+1))
theorem AY (vs:List SV)(k:Nat):iq (.int k) (qD vs)=some vs[k]? :=by
 cases vs with
 |nil=>rfl
 |cons v r=>
  have:=yf (v::r) 0 k
  rw [Nat.zero_add] at this
  exact congrArg some this
theorem BB (vs:List SV)(v:SV)(h:vs.length<4096):ut (.int vs.length) v (qD vs)=some (qD (vs++ [v])):=by
 cases vs with
 |nil=>rfl
 |cons u r=>
  have:=xl (u::r) 0 v
  rw [Nat.zero_add] at this
  refine (if_pos (by rw [xW];exact h)).trans ?_
  rw [this];rfl
structure bg where
 dF:Bool
 c:iY
noncomputable def wi (w:Bool):Int:=if w then 1 else 0
noncomputable def bg.sv (a:bg):SV:= .tuple [.int (wi a.dF), .int a.c.number, .int a.c.kind, .bytes a.c.key, .bytes a.c.value,ob a.c.expect]
structure bo where
 term:Int
 mem:Nat
 er:SV
 one:Option Nat
 cr:SV
noncomputable def CX:Option Nat->Int
 |none=> -1
 |some k=>k
noncomputable def bo.sv (e:bo):SV:= .tuple [.int e.term, .int e.mem,e.er, .int (CX e.one),e.cr]
structure RS where
 fB:List (Option By)
 ef:List Int
 now:By->Option By
 done:Bool->List Nat
 told:List By
 since:List Nat
noncomputable def dA:bg:=⟨false,⟨0,0,0, [], [],none⟩⟩
noncomputable def ik (ak:List bg)(done:List Nat):Bool:=match done.getLast? with
 |none=>true
 |some k=>decide ((ak.getD k dA).c.kind=6)
noncomputable def RS.note (s:RS)(r:Option By)(c:Int):RS:={s with fB:=s.fB++ [r],ef:=s.ef++ [c]}
noncomputable def RS.tell (s:RS)(b:By)(n:Nat):RS:={s with told:=s.told++ [b],since:=s.since++ [n]}
noncomputable def RS.M9 (s:RS)(f:By->Option By):RS:={s with now:=f}
noncomputable def RS.GE (s:RS)(w:Bool)(k:Nat):RS:={s with done:=λy=>if y=w then s.done y++ [k] else s.done y}
noncomputable def RS.zd (s:RS)(c:iY):RS:=s.M9 (MB c.key (dp c (s.now c.key)) s.now)
noncomputable def du (ak:List bg)(s:RS):Option Nat->RS
 |none=>s.note none 1
 |some k=>
  let a:=ak.getD k dA
  if k<s.told.length then s.note (some (if s.since.getD k 0<(s.done a.dF).length then [3,0] else s.told.getD k [])) 1
  else if (!decide (a.c.kind=5)&&ik ak (s.done a.dF))=true then (s.tell [2,0] (s.done a.dF).length).note (some [2,0]) 1
  else (((s.zd a.c).GE a.dF k).tell (bF a.c (s.now a.c.key)) ((s.done a.dF).length+1)).note (some (bF a.c (s.now a.c.key))) (if (dp a.c (s.now a.c.key)).isSome then 3 else 2)
noncomputable def mP:RS:=⟨[], [],λu8=>none,λu8=> [], [], []⟩
noncomputable def cD (ak:List bg)(s:RS):List bo->RS
 | []=>s
 |e::r=>cD ak (du ak s e.one) r
section
variable {H0 L G G' :HP}{k:Nat}{o:SO}
theorem DB (h:L[k]? =some o):(H0++(L++G))[H0.length+k]? =some o:=by
 rw [eG (gU _ _),Nat.add_sub_cancel_left,iM (gw h).1]
 exact h
theorem Ay (h:k<L.length):(H0++(L++G)).set (H0.length+k) o=H0++(L.set k o++G):=by
 rw [List.set_append_right _ _ (gU _ _),Nat.add_sub_cancel_left,List.set_append_left _ _ h]
theorem RY:(H0++(L++G))++G' =H0++(L++(G++G')):=by rw [bX,bX]
end
noncomputable def dn (l:List Nat):List SV:=l.map λk=> .int (k:Nat)
noncomputable def rL (n:Nat)(s:RS)(so:SO):HP:= [.list (s.fB.map ob), .list (s.ef.map .int),so, .list (dn (s.done false)), .list (dn (s.done true)), .list [.ref (n+3), .ref (n+4)],qD (s.told.map .bytes),qD (dn s.since)]
noncomputable def U2:List By:= [[], [107]]
noncomputable def JS:SS:=cL (bx 2 (km (cL (bx 2 (nj (cL (km (cL (bx 2 (te (cL (bx 6 Tn))))))))))))
section
variable {R:au}{l:cR}{H H1 H2:HP}{e e1:SE}{p q:Bool}
theorem Fw (h:bj P R e l H= .ok (.bool p) H1)(h2:p=false->bj P R e1 l H1= .ok (.bool q) H1):bj P R (.or (.cons e (.cons e1 .nil))) l H= .ok (.bool (p||q)) H1:=by
 show (bj P R e l H).bind _=_
 rw [h]
 cases p with
 |true=>rfl
 |false=>exact h2 rfl
theorem QE (a b:Option By)(H:HP):bV .eq (ob a) (ob b) H=some (decide (a=b)):=by
 cases a with
 |none=>cases b<;>rfl
 |some x=>cases b with
  |none=>rfl
  |some y=>
   show some (x==y)=_
   by_cases q:x=y
   ·subst q
    rw [iV,bf rfl]
   ·rw [eS q,aR (λe=>q (cq e))]
theorem gA {i:Nat}(h:l[i]? =some (some (.bool q))):gK P R (.loc i) l H= .ok q H:=by
 show (match l[i]? with|some (some v)=>fj (eO v H) H|_=> .bad)=_
 rw [h];rfl
theorem DQ {di:Nat}(hd:H[di]? =some so)(hD:dU U so D):dl R .iW (.ref di) [.bytes k] H= .ok (ob (D k)) H:=by
 show (match H[di]? with
   |some o=>(match iq (.bytes k) o with|some x=>dz.ok (x.getD .none) H|none=> .bad)
   |none=> .bad)=_
 rw [hd]
 dsimp only
 rw [oW hD]
 cases D k<;>rfl
theorem wD {di:Nat}(hd:H[di]? =some so)(hD:dU U so D):d7 P (.ref di) 27 H=some .iW:=by
 rw [bO hd]
 obtain ⟨es,e|⟨e,_⟩,_⟩:=hD.ex<;>subst e<;>rfl
end
theorem TL (hi:¬idle c=true)(h:c.kind=2):dp c cx=match cx with
  |some _=>some none
  |none=>none:=(if_neg hi).trans ((if_neg (by lia)).trans (if_pos h))
theorem Sg (hi:¬idle c=true)(h:c.kind=3):dp c cx=if cx=c.expect then some (some c.value) else none:=(if_neg hi).trans ((if_neg (by lia)).trans ((if_neg (by lia)).trans (if_pos h)))
theorem TE (hi:¬idle c=true)(h:c.kind=1):dp c cx=some (some c.value):=(if_neg hi).trans (if_pos h)
theorem TH {cx:Option By}(hi:¬idle c=true)(h:c.kind≠1)(h2:c.kind≠2)(h3:c.kind≠3):dp c cx=match cx with
  |none=>some (some c.value)
  |some o=>some (some (o++c.value)):=(if_neg hi).trans ((if_neg h).trans ((if_neg h2).trans (if_neg h3)))
noncomputable def oH (lg ak n:Nat)(f:Nat->Option SV):cR:= [some (.ref lg),some (.ref ak),some (.ref n),some (.ref (n+1)),some (.ref (n+2)),some (.ref (n+5)),some (.ref (n+6)),some (.ref (n+7)),f 8,f 9,f 10,f 11,f 12,f 13,f 14,f 15,f 16,f 17,f 18,f 19,f 20,f 21,f 22,f 23]
noncomputable def rH (H0:HP)(s:RS)(so:SO)(G:HP):HP:=H0++(rL H0.length s so++G)
noncomputable def yq (f:Nat->Option SV)(c:iY)(cost:Int)(cx:SV)(right:Bool):Nat->Option SV
 |14=>some (.int cost)
 |17=>some (.int c.kind)
 |18=>some (.bytes c.key)
 |19=>some (.bytes c.value)
 |20=>some (ob c.expect)
 |22=>some cx
 |23=>some (.bool right)
 |k=>f k
section
variable {H0 G:HP}{s:RS}{so:SO}{lg ak:Nat}{c:iY}{R:au}
theorem wS:(rH H0 s so G)[H0.length+2]? =some so:=DB rfl
theorem GK:(rH H0 s so G).set (H0.length+2) fk=rH H0 s fk G:=Ay (show 2<8 by decide)
theorem vJ (hD:dU U2 so s.now)(hk:k∈U2){C:Prop}(K:∀fk,jO (.ref (H0.length+2)) (.bytes k) (.bytes v) (rH H0 s so G)=some (rH H0 s fk G)->dU U2 fk (λx=>if x=k then some v else s.now x)->C):C:=by
 refine aZ (xU (k:=k) (b:=v) hD hk (by decide)) λfk h1 h2=> ?_
 exact K fk ((pG wS h1).trans (congrArg some GK)) h2
noncomputable def RK:SS:=cL (bx 1 (nj (cL (km (cL (bx 2 (nj JS)))))))
theorem Go (hD:dU U2 so s.now)(k0:0<=c.kind)(k6:c.kind<=6)(hk:c.key= []∨c.key= [107])(hv:c.value.length=1)(hn:∀b,s.now c.key=some b->b.length<=90)(f:Nat->Option SV){C:Prop}
  (K:∀fk right,gJ P R JS (oH lg ak H0.length (yq f c 1 .none true)) (rH H0 s so G)= .next (oH lg ak H0.length (yq f c (if (dp c (s.now c.key)).isSome then 2 else 1) (ob (if idle c then none else s.now c.key)) right)) (rH H0 (s.zd c) fk G)->
   dU U2 fk (s.zd c).now->bF c (s.now c.key)=(if right then 0 else 1)::mb (if idle c then none else s.now c.key)->C):C:=by
 have LB:c.key∈U2:=by rcases hk with q|q<;>rw [q]<;>decide
 unfold RS.zd at K
 by_cases hi:idle c=true
 ·have Rn:dp c (s.now c.key)=none:=if_pos hi
  rw [Rn,if_pos hi] at K
  refine K so true (cF ?_ aj) hD (if_pos hi)
  unfold idle at hi
  simp only [Bool.or_eq_true,decide_eq_true_eq] at hi
  by_cases q:0<c.kind
  ·exact cM (dP (an rfl rfl (jI (bf q))) (iU (an rfl rfl (gv (aR (by lia))))))
  ·exact cM (iU (an rfl rfl (jI (aR q))))
 have jf:0<c.kind/\c.kind<5:=by
  have:=Bt hi
  lia
 rw [if_neg hi] at K
 generalize ho:s.now c.key=cx at hn K
 have go:∀(right:Bool) {o:cQ},(!decide (c.kind=3)||decide (cx=c.expect))=right->aK P R (bx 2 (nj JS)) (oH lg ak H0.length (yq f c 1 (ob cx) right)) (rH H0 s so G)=o->gJ P R JS (oH lg ak H0.length (yq f c 1 .none true)) (rH H0 s so G)=o:=λright o hr h=>
  eZ (cM (dP (an rfl rfl (jI (bf jf.1))) (dP (an rfl rfl (gv (bf jf.2))) fP))) (ae (bJ (ho▸aw rfl (wD wS hD) (aa rfl af) (DQ wS hD))) (ae (bJ (Fw (fU rfl rfl (k8 _ _ _)) (λu8=>fU rfl rfl (QE _ _ _)))) (hr▸h)))
 by_cases q2:c.kind=2
 ·have hr:bF c cx=0::mb cx:=kT hi λz=>absurd (z.1.symm.trans q2) (by decide)
  have h3:(!decide (c.kind=3)||decide (cx=c.expect))=true:=by rw [q2];rfl
  rw [TL hi q2] at K
  cases cx with
  |none=>exact K so true (go true h3 (ae (eZ (ki rfl (bf q2)) (ae (cF (an rfl rfl rfl) aj) aj)) aj)) hD hr
  |some b=>
   refine aZ (yj hD ho) λfk h1 h2=> ?_
   exact K fk true (go true h3 (ae (eZ (ki rfl (bf q2)) (ae (eZ (an rfl rfl rfl) (ae (Px rfl rfl ((xc wS h1).trans (congrArg some GK))) (ae (bJ rfl) aj))) aj)) aj)) h2 hr
 have k2:=λ{H:HP}=>ki (R:=R) (H:=H) (k:=17) (l:=oH lg ak H0.length (yq f c 1 (ob cx) true)) rfl (aR q2)
 by_cases q3:c.kind=3
 ·rw [Sg hi q3] at K
  by_cases qe:cx=c.expect
  ·rw [if_pos qe] at K
   exact vJ (v:=c.value) hD LB λfk h1 h2=>K fk true (go true (by rw [bf qe,Bool.or_true]) (ae (cF k2 (ae (eZ (gA rfl) (ae (bJ rfl) (ae (cF (cM (iU (ki rfl (aR (by lia))))) (ae (tS rfl rfl rfl h1) aj)) aj))) aj)) aj)) h2 (kT hi λz=>z.2 qe)
  ·rw [if_neg qe] at K
   exact K so false (go false (by rw [aR qe,bf q3];rfl) (ae (cF (ki rfl (aR q2)) (ae (cF (gA rfl) aj) aj)) aj)) hD ((if_neg hi).trans (if_pos ⟨q3,qe⟩))
 have h3:(!decide (c.kind=3)||decide (cx=c.expect))=true:=by rw [aR q3];rfl
 have hr:bF c cx=0::mb cx:=kT hi λz=>q3 z.1
 have eR:∀{v:By} {fk:SO},dp c cx=some (some v)->gJ P R RK (oH lg ak H0.length (yq f c 2 (ob cx) true)) (rH H0 s so G)= .next (oH lg ak H0.length (yq f c 2 (ob cx) true)) (rH H0 s fk G)->dU U2 fk (λx=>if x=c.key then some v else s.now x)->C:=λ{v fk} e h h2=>by
  rw [e] at K
  exact K fk true (go true h3 (ae (cF k2 (ae (eZ (gA rfl) (ae (bJ rfl) (ae h aj))) aj)) aj)) h2 hr
 by_cases q1:c.kind=1
 ·exact vJ (v:=c.value) hD LB λfk h1 h2=>eR (TE hi q1) (cF (cM (iU (ki rfl (aR (by lia))))) (ae (tS rfl rfl rfl h1) aj)) h2
 have q4:c.kind=4:=by lia
 have Rn:=TH (cx:=cx) hi q1 q2 q3
 cases cx with
 |none=>exact vJ (v:=c.value) hD LB λfk h1 h2=>eR Rn (cF (cM (dP (ki rfl (bf q4)) (iU (an rfl rfl rfl)))) (ae (tS rfl rfl rfl h1) aj)) h2
 |some b=>
  have hb:=hn b rfl
  have eb:cE .add (.bytes b) (.bytes c.value) (rH H0 s so G)= .ok (.bytes (b++c.value)) (rH H0 s so G):=if_pos (by show b.length+c.value.length<=4096;lia)
  exact vJ (v:=b++c.value) hD LB λfk h1 h2=>eR Rn (eZ (cM (dP (ki rfl (bf q4)) (dP (an rfl rfl rfl) fP))) (ae (tS (aJ rfl rfl eb) rfl rfl h1) aj)) h2
end
structure lX (ak:List bg):Prop where
 ok:∀a∈ak,a.c.Ok/\a.c.kind<=6/\(a.c.key= []∨a.c.key= [107])/\a.c.value.length=1/\a.c.d9=cl a.dF
structure ga (ak:List bg)(s:RS)(n:Nat):Prop where
 r:s.fB.length<=n
 c:s.ef.length<=n
 t:s.told.length<=n
 st:s.since.length=s.told.length
 d:∀w,(s.done w).length<=n
 dk:∀w k,k∈s.done w->k<ak.length
 nw:∀k b,s.now k=some b->b.length<=n
 tl:∀b∈s.told,b.length<=n+3
noncomputable def qQ (ak:List bg)(s:RS)(one:Option Nat):Prop:=∀k,one=some k->k<ak.length/\k<=s.told.length
noncomputable def pP (n:Nat)(w:Bool):Nat:=if w then n+4 else n+3
section
variable {H H0 G:HP}{s:RS}{so:SO}{lg fO r k:Nat}{vs:List SV}{v:SV}{ak:List bg}
theorem x9 (hr:H[r]? =some (qD vs)):bV .isIn (.int k) (.ref r) H=some (decide (k<vs.length)):=by
 show (match H[r]? with|some o=>(iq (.int k) o).map (λz=>Option.isSome z)|none=>none)=_
 rw [hr]
 dsimp only
 rw [AY]
 show some (vs[k]?.isSome)=_
 by_cases q:k<vs.length
 ·rw [eW q,bf q];rfl
 ·rw [List.getElem?_eq_none (Nat.not_lt.mp q),aR q];rfl
theorem wt (hr:H[r]? =some (qD vs))(hv:vs[k]? =some v):dH (.ref r) (.int k) H= .ok v H:=by
 unfold dH
 dsimp only
 rw [hr]
 cases vs with
 |nil=>cases hv
 |cons u t=>
  have:=AY (u::t) k
  rw [hv] at this
  show (match iq (.int k) (qD (u::t)) with|some (some v)=>dz.ok v H|_=> .bad)=_
  rw [this]
theorem me (hr:H[r]? =some (.list (ak.map bg.sv)))(hk:k<ak.length):dH (.ref r) (.int k) H= .ok (ak.getD k dA).sv H:=by
 refine gz hr ?_
 rw [hV,List.getD_eq_getElem?_getD,eW hk];rfl
theorem kt (w:Bool){n:Nat}(hr:H[r]? =some (.list [.ref (n+3), .ref (n+4)])):dH (.ref r) (.int (wi w)) H= .ok (.ref (pP n w)) H:=by
 cases w with
 |false=>exact gz (k:=0) hr rfl
 |true=>exact gz (k:=1) hr rfl
theorem o8 (w:Bool):(rH H0 s so G)[pP H0.length w]? =some (.list (dn (s.done w))):=by
 cases w with
 |false=>exact DB (k:=3) rfl
 |true=>exact DB (k:=4) rfl
theorem He (w:Bool){x:Nat}:(rH H0 s so G).set (pP H0.length w) (.list (dn (s.done w++ [x])))=rH H0 (s.GE w x) so G:=by
 cases w with
 |false=>exact Ay (k:=3) (show 3<8 by decide)
 |true=>exact Ay (k:=4) (show 4<8 by decide)
theorem AN:(rH H0 s so G)[H0.length+5]? =some (.list [.ref (H0.length+3), .ref (H0.length+4)]):=DB rfl
theorem r6:(rH H0 s so G)[H0.length+6]? =some (qD (s.told.map .bytes)):=DB rfl
theorem xF:(rH H0 s so G)[H0.length+7]? =some (qD (dn s.since)):=DB rfl
theorem sO:Gr H0 (rH H0 s so G):=⟨_,rfl⟩
theorem js:(dn l).length=l.length:=bI _
theorem mW {x:Nat}:dn l++ [.int (x:Nat)]=dn (l++ [x]):=by unfold dn;rw [eJ];rfl
noncomputable def nP:cA:=te (cL (bx 6 Tn))
theorem pk {α β:Type}{f:α->β}{l:List α}{x:α}:l.map f++ [f x]=(l++ [x]).map f:=(eJ (l₁:=l) (l₂:= [x])).symm
theorem vg {R:au}{rp:Option By}{c:Int}(h2:l[2]? =some (some (.ref H0.length)))(h3:l[3]? =some (some (.ref (H0.length+1))))(J4:l[13]? =some (some (ob rp)))(MA:l[14]? =some (some (.int c)))(hr:s.fB.length<60)(hc:s.ef.length<60):
  aK P R (bx 3 nP) l (rH H0 s so G)= .next l (rH H0 (s.note rp c) so G):=by
 have a2:(rH H0 s so G)[H0.length]? =some (.list (s.fB.map ob)):=DB (k:=0) rfl
 have e2:=jT (R:=R) (v:=ob rp) a2 (by rw [bI];exact dR hr (by decide))
 rw [pk (f:=ob),show (rH H0 s so G).set H0.length (.list ((s.fB++ [rp]).map ob))=rH H0 {s with fB:=s.fB++ [rp]} so G from Ay (k:=0) (show 0<8 by decide)] at e2
 have a3:(rH H0 {s with fB:=s.fB++ [rp]} so G)[H0.length+1]? =some (.list (s.ef.map .int)):=DB (k:=1) rfl
 have e3:=jT (R:=R) (v:= .int c) a3 (by rw [bI];exact dR hc (by decide))
 rw [pk (f:=SV.int),show (rH H0 {s with fB:=s.fB++ [rp]} so G).set (H0.length+1) (.list ((s.ef++ [c]).map .int))=rH H0 (s.note rp c) so G from Ay (k:=1) (show 1<8 by decide)] at e3
 exact ae (bZ (aw (bc h2) (bO a2) (aa (bc J4) af) e2)) (ae (bZ (aw (bc h3) (bO a3) (aa (bc MA) af) e3)) aj)
theorem vi {R:au}(h6:l[6]? =some (some (.ref (H0.length+6))))(h7:l[7]? =some (some (.ref (H0.length+7))))(Cc:l[11]? =some (some (.int (s.told.length:Nat))))(J4:l[13]? =some (some (.bytes rp)))(NM:l[21]? =some (some (.ref (pP H0.length w))))
  (hs:s.since.length=s.told.length) (ht:s.told.length<60):
  aK P R (bx 3 (nj (cL (km (cL (bx 2 nP)))))) l (rH H0 s so G)= .next l (rH H0 (s.tell rp (s.done w).length) so G):=by
 have p6:=BB (s.told.map SV.bytes) (.bytes rp) (by rw [bI];exact dR ht (by decide))
 rw [bI] at p6
 have e6:=pG (k:= .int s.told.length) (r6 (H0:=H0) (s:=s) (so:=so) (G:=G)) p6
 rw [pk (f:=SV.bytes),show (rH H0 s so G).set (H0.length+6) (qD ((s.told++ [rp]).map .bytes))=rH H0 {s with told:=s.told++ [rp]} so G from Ay (show 6<8 by decide)] at e6
 have p7:=BB (dn s.since) (.int ((s.done w).length:Nat)) (by rw [js,hs];exact dR ht (by decide))
 rw [js,hs] at p7
 have e7:=pG (k:= .int s.told.length) (xF (H0:=H0) (s:={s with told:=s.told++ [rp]}) (so:=so) (G:=G)) p7
 rw [mW,show (rH H0 {s with told:=s.told++ [rp]} so G).set (H0.length+7) (qD (dn (s.since++ [(s.done w).length])))=rH H0 (s.tell rp (s.done w).length) so G from Ay (show 7<8 by decide)] at e7
 have hl:=ca (o8 (H0:=H0) (s:={s with told:=s.told++ [rp]}) (so:=so) (G:=G) w)
 rw [js] at hl
 exact ae (tS (bc J4) (bc h6) (bc Cc) e6) (ae (tS (bq (aa (bc NM) af) hl) (bc h7) (bc Cc) e7) aj)
end
theorem N9 {α:Type}{n:Nat}{j:List α}(h:j.length=n+1):∃a t,j=a::t/\t.length=n:=by
 cases j with
 |nil=>exact OE h
 |cons a t=>exact ⟨a,t,rfl,Nat.succ.inj h⟩
noncomputable def Lx:cA:=nj (cL (km (cL (bx 2 nP))))
noncomputable def mA (f:Nat->Option SV)(k:Int)(rp:SV)(c:Int):Nat->Option SV
 |11=>some (.int k)
 |13=>some rp
 |14=>some (.int c)
 |k=>f k
section
variable {H0 G:HP}{s:RS}{so:SO}{lg fO k n:Nat}{ak:List bg}
theorem C2 (hA:H0[fO]? =some (.list (ak.map bg.sv)))(hk:k<ak.length)(ht:k<s.told.length)(hs:s.since.length=s.told.length)(f:Nat->Option SV)(R:au):
  gJ P R (cL (bx 2 nP)) (oH lg fO H0.length (mA f k .none 1)) (rH H0 s so G)=
   .next (oH lg fO H0.length (mA f k (.bytes (if s.since.getD k 0<(s.done (ak.getD k dA).dF).length then [3,0] else s.told.getD k [])) 1)) (rH H0 s so G):=by
 have v6:(s.told.map SV.bytes)[k]? =some (.bytes (s.told.getD k [])):=by
  rw [hV,List.getD_eq_getElem?_getD,eW ht];rfl
 have v7:(dn s.since)[k]? =some (.int (s.since.getD k 0:Nat)):=by
  unfold dn
  rw [hV,List.getD_eq_getElem?_getD,eW (hs▸ht)];rfl
 have yM:=x9 (k:=k) (r6 (H0:=H0) (s:=s) (so:=so) (G:=G))
 rw [bI,bf ht] at yM
 have hl:=ca (o8 (s:=s) (so:=so) (G:=G) (H0:=H0) (ak.getD k dA).dF)
 rw [js] at hl
 have go:∀(q:Bool),decide (s.since.getD k 0<(s.done (ak.getD k dA).dF).length)=q->
   gK P R (.cmp .gt (.bG .len (.cons (.sub (.loc 5) (.sub (.sub (.loc 1) (.loc 11)) (.int 0))) .nil)) (.sub (.loc 7) (.loc 11))) (oH lg fO H0.length (mA f k (.bytes (s.told.getD k [])) 1)) (rH H0 s so G)= .ok q (rH H0 s so G):=λq hq=>
  an (bq (aa (aN rfl (aN (aN rfl rfl (me (sO.at hA) hk)) rfl (o:= .ok (.int (wi (ak.getD k dA).dF)) _) rfl) (kt _ AN)) af) hl) (aN rfl rfl (wt xF v7)) (jI (hq▸decide_eq_decide.mpr Int.ofNat_lt))
 refine eZ (cM (dP (an rfl rfl (pZ (bf (fw k)))) (dP (an rfl rfl yM) fP))) (ae (bJ (aN rfl rfl (wt r6 v6))) ?_)
 by_cases q:s.since.getD k 0<(s.done (ak.getD k dA).dF).length
 ·rw [if_pos q]
  exact ae (eZ (go true (bf q)) (ae (bJ rfl) aj)) aj
 ·rw [if_neg q]
  exact ae (cF (go false (aR q)) aj) aj
theorem Cw {y:Nat}:ik ak (ys++ [y])=decide ((ak.getD y dA).c.kind=6):=by
 unfold ik
 rw [List.getLast?_append];rfl
theorem Bz (hA:H0[fO]? =some (.list (ak.map bg.sv)))(a:bg)(hd:∀x∈s.done a.dF,x<ak.length){R:au}(h1:l[1]? =some (some (.ref fO)))(NM:l[21]? =some (some (.ref (pP H0.length a.dF))))(NA:l[17]? =some (some (.int a.c.kind))):
  gK P R (.and (.cons (.cmp .ne (.loc 17) (.int 5)) (.cons (.or (.cons (.cmp .eq (.bG .len (.cons (.loc 21) .nil)) (.int 0)) (.cons (.cmp .eq (.sub (.sub (.loc 1) (.sub (.loc 21) (.neg (.int 1)))) (.int 2)) (.int 6)) .nil))) .nil))) l (rH H0 s so G)= .ok (!decide (a.c.kind=5)&&ik ak (s.done a.dF)) (rH H0 s so G):=by
 have QP:=o8 (s:=s) (so:=so) (G:=G) (H0:=H0) a.dF
 have hl:=ca QP
 rw [js] at hl
 refine Gz (an (bc NA) rfl (k8 _ _ _)) λu8=> ?_
 rcases List.eq_nil_or_concat (s.done a.dF) with z|⟨ys,y,z⟩
 ·rw [z] at hl⊢
  exact fu (j0 (ip (bq (aa (bc NM) af) hl) rfl))
 ·rw [List.concat_eq_append] at z
  have hy:=hd y (by rw [z];simp)
  rw [z] at hl QP⊢
  rw [<-mW] at QP
  rw [Cw]
  exact PO (p:=false) (ip (bq (aa (bc NM) af) hl) (aR λz=>nomatch (aL (as:=ys) (bs:= [y])).symm.trans (Int.ofNat.inj z))) λu8=>
   ip (aN (aN (bc h1) (aN (bc NM) rfl (en QP)) (me (sO.at hA) hy)) rfl (o:= .ok (.int (ak.getD y dA).c.kind) _) rfl) rfl
end
theorem DS {R:au}{q:Bool}(h:gK P R c l H= .ok q H)(ha:q=true->bj P R a l H= .ok v H)(hb:q=false->bj P R b l H= .ok v H):bj P R (.ite c a b) l H= .ok v H:=by
 show (gK P R c l H).bind _=_
 rw [h]
 cases q with
 |true=>exact ha rfl
 |false=>exact hb rfl
noncomputable def Ac (f:Nat->Option SV)(a:bg)(r:Nat):Nat->Option SV
 |15=>some (.int (wi a.dF))
 |16=>some (.int a.c.number)
 |17=>some (.int a.c.kind)
 |18=>some (.bytes a.c.key)
 |19=>some (.bytes a.c.value)
 |20=>some (ob a.c.expect)
 |21=>some (.ref r)
 |k=>f k
section
variable {H0 G:HP}{s:RS}{so:SO}{lg fO n:Nat}{ak:List bg}{d:Nat}
theorem sE (hA:H0[fO]? =some (.list (ak.map bg.sv)))(hk:s.told.length<ak.length)(f:Nat->Option SV)(R:au)
  (h:aK P R (bx 2 Lx) (oH lg fO H0.length (mA (Ac f (ak.getD s.told.length dA) (pP H0.length (ak.getD s.told.length dA).dF)) (s.told.length:Nat) .none 1)) (rH H0 s so G)= .next l' H'):
  gJ P R (cL (bx 2 nP)) (oH lg fO H0.length (mA f (s.told.length:Nat) .none 1)) (rH H0 s so G)= .next l' H' :=by
 have yM:=x9 (k:=s.told.length) (r6 (H0:=H0) (s:=s) (so:=so) (G:=G))
 rw [bI,aR (Nat.lt_irrefl _)] at yM
 have c0:=pZ (H:=rH H0 s so G) (bf (fw s.told.length))
 have e0:=me (sO.at hA) hk (H:=rH H0 s so G)
 generalize ak.getD s.told.length dA=a at*
 exact cF (cM (dP (an rfl rfl c0) (iU (an rfl rfl yM)))) (ae (eZ (an rfl rfl c0) (ae (lu (vs:= [.int (wi a.dF), .int a.c.number, .int a.c.kind, .bytes a.c.key, .bytes a.c.value,ob a.c.expect]) (aN rfl rfl e0) rfl)
  (ae (bJ (aN rfl rfl (kt _ AN))) h))) aj)
theorem we (hA:H0[fO]? =some (.list (ak.map bg.sv)))(hk:s.told.length<ak.length)(hs:s.since.length=s.told.length)(hl:s.told.length<60)(hd:∀w,∀x∈s.done w,x<ak.length)(Nu:(!decide ((ak.getD s.told.length dA).c.kind=5)&&ik ak (s.done (ak.getD s.told.length dA).dF))=true)(f:Nat->Option SV)(R:au):
  gJ P R (cL (bx 2 nP)) (oH lg fO H0.length (mA f (s.told.length:Nat) .none 1)) (rH H0 s so G)=
   .next (oH lg fO H0.length (mA (Ac f (ak.getD s.told.length dA) (pP H0.length (ak.getD s.told.length dA).dF)) (s.told.length:Nat) (.bytes [2,0]) 1)) (rH H0 (s.tell [2,0] (s.done (ak.getD s.told.length dA).dF).length) so G):=by
 have e1:=Bz (s:=s) (so:=so) (G:=G) hA (ak.getD s.told.length dA) (hd _) (R:=R) (l:=oH lg fO H0.length (mA (Ac f (ak.getD s.told.length dA) (pP H0.length (ak.getD s.told.length dA).dF)) (s.told.length:Nat) .none 1)) rfl rfl rfl
 rw [Nu] at e1
 exact sE hA hk f R (ae (eZ e1 (ae (bJ rfl) aj)) (vi rfl rfl rfl rfl rfl hs hl))
theorem LJ {x:Int}(h:∀b,o=some b->b.length<200):cE .add (.bytes [x]) (.bytes (mb o)) H= .ok (.bytes (x::mb o)) H:=if_pos (by
 have:=GL (o:=o) (n:=200) λb hb=>Nat.le_of_lt (h b hb)
 show 1+(mb o).length<=4096
 lia)
theorem Li {r:Bool}:lG [if r then 0 else 1]=true:=by cases r<;>rfl
theorem D6 {nv:Option (Option By)}:cE .add (.int (if nv.isSome then 2 else 1)) (.int 1) H= .ok (.int (if nv.isSome then 3 else 2)) H:=by cases nv<;>rfl
theorem Hx {k:Nat}:(s.GE w k).done w=s.done w++ [k]:=if_pos rfl
theorem Ci (hA:H0[fO]? =some (.list (ak.map bg.sv)))(hk:s.told.length<ak.length)(hs:s.since.length=s.told.length)(hl:s.told.length<60)(hd:∀w,∀x∈s.done w,x<ak.length)(Np:∀w,(s.done w).length<60)(ha:ak.getD s.told.length dA=a)(Nu:(!decide (a.c.kind=5)&&ik ak (s.done a.dF))=false)
  (hD:dU U2 so s.now) (k0:0<=a.c.kind) (k6:a.c.kind<=6) (uy:a.c.key= []∨a.c.key= [107]) (hv:a.c.value.length=1) (hn:∀b,s.now a.c.key=some b->b.length<=90) (f:Nat->Option SV) (d:Nat) {C:Prop}
  (K:∀fk G' f',gJ P (run P (d+1)) (cL (bx 2 nP)) (oH lg fO H0.length (mA f (s.told.length:Nat) .none 1)) (rH H0 s so G)= .next (oH lg fO H0.length (mA f' (s.told.length:Nat) (.bytes (bF a.c (s.now a.c.key))) (if (dp a.c (s.now a.c.key)).isSome then 3 else 2))) (rH H0 (((s.zd a.c).GE a.dF s.told.length).tell (bF a.c (s.now a.c.key)) ((s.done a.dF).length+1)) fk G')->dU U2 fk (s.zd a.c).now->C):C:=by
 have e1:=Bz (s:=s) (so:=so) (G:=G) hA a (hd _) (R:=run P (d+1)) (l:=oH lg fO H0.length (mA (Ac f a (pP H0.length a.dF)) (s.told.length:Nat) .none 1)) rfl rfl rfl
 rw [Nu] at e1
 have rf:=λ{l' H'}=>sE (s:=s) (so:=so) (G:=G) (lg:=lg) hA hk f (run P (d+1)) (l' :=l') (H' :=H')
 rw [ha] at rf
 refine Go (H0:=H0) (G:=G) (lg:=lg) (ak:=fO) (R:=run P (d+1)) (c:=a.c) hD k0 k6 uy hv hn (mA (Ac f a (pP H0.length a.dF)) (s.told.length:Nat) .none 1) λfk right e2 d2 r2=> ?_
 have ho:∀b,(if idle a.c then none else s.now a.c.key)=some b->b.length<200:=λb hb=>by
  split at hb
  ·exact mZ hb
  ·exact fM (hn b hb) (by decide)
 generalize (if idle a.c then none else s.now a.c.key)=cx at*
 generalize bF a.c (s.now a.c.key)=rep at*
 generalize dp a.c (s.now a.c.key)=nv at*
 have Sn:(s.zd a.c).told=s.told:=rfl
 have YX:(s.zd a.c).since=s.since:=rfl
 have Vn:(s.zd a.c).done=s.done:=rfl
 generalize s.zd a.c=s1 at*
 obtain ⟨H3,e3,G3,g3⟩:=Du ho d (rH H0 s1 fk G++ [SO.list [.int (if right then 0 else 1)]])
 have g4:H3=rH H0 s1 fk (G++([SO.list [.int (if right then 0 else 1)]]++G3)):=by
  rw [g3,rH,rH,bX,RY]
 rw [g4] at e3
 generalize G++([SO.list [.int (if right then 0 else 1)]]++G3)=G' at*
 have ad:=o8 (s:=s1) (so:=fk) (G:=G') (H0:=H0) a.dF
 have e6:=jT (R:=run P (d+1)) (v:= .int (s.told.length:Nat)) ad (by rw [js,Vn];exact dR (Np _) (by decide))
 rw [mW,He] at e6
 have xY:=cJ (H:=rH H0 s1 fk G++ [SO.list [.int (if right then 0 else 1)]]) (dW ..) (is:= [if right then 0 else 1]) rfl Li
 have e7:=vi (R:=run P (d+1)) (s:=s1.GE a.dF s.told.length) (so:=fk) (G:=G') (H0:=H0) (rp:=rep) (w:=a.dF)
  (l:=oH lg fO H0.length (mA (Ac (fr (oH lg fO H0.length (yq (mA (Ac f a (pP H0.length a.dF)) (s.told.length:Nat) .none 1) a.c (if nv.isSome then 2 else 1) (ob cx) right))) a (pP H0.length a.dF)) (s.told.length:Nat) (.bytes rep) (if nv.isSome then 3 else 2))) rfl rfl (congrArg (λt:List By=>some (some (SV.int (t.length:Nat)))) Sn.symm) rfl rfl (show s1.since.length=s1.told.length by rw [YX,Sn];exact hs) (show s1.told.length<60 by rw [Sn];exact hl)
 rw [Hx,aL,Vn] at e7
 exact K fk G' _ (nc (λf' =>oH lg fO H0.length (mA f' (s.told.length:Nat) (.bytes rep) (if nv.isSome then 3 else 2))) (rf (ae (cF e1 (ae (bJ rfl) (ae (bJ rfl) (ae e2 (ae (bJ (aJ (bq (aa (bE (aa (DS (gA (q:=right) rfl) (λz=>by rw [z];rfl) (λz=>by rw [z];rfl)) af)) af) xY) (cz (aa rfl af) e3) (r2▸LJ ho)))
  (ae (bZ (aw rfl (bO ad) (aa rfl af) e6)) (ae (tQ (a:=if nv.isSome then 2 else 1) (c:=1) (v:= .int (if nv.isSome then 3 else 2)) rfl rfl D6) aj))))))) e7)) rfl) d2
end
theorem jP {ak:List bg}{k:Nat}(h:k<ak.length):ak.getD k dA∈ak:=by
 rw [List.getD_eq_getElem?_getD,eW h]
 exact List.getElem_mem h
set_option tactic.hygienic true in
theorem Ju {n:Nat}(hf:∀x b,f x=some b->b.length<=n)(hv:∀b,v=some (some b)->b.length<=n+1):∀x b,MB k v f x=some b->b.length<=n+1:=λx b h=>by
 unfold MB at h
 split at h
 ·exact Nat.le_succ_of_le (hf x b h)
 ·rename_i v
  split at h
  ·exact hv b (by rw [h])
  ·exact Nat.le_succ_of_le (hf x b h)
theorem zT {n:Nat}(hv:c.value.length=1)(h:∀b,cx=some b->b.length<=n):∀b,dp c cx=some (some b)->b.length<=n+1:=λb hb=>by
 unfold dp at hb
 split at hb
 ·exact mZ hb
 split at hb
 ·cases hb;lia
 split at hb
 ·split at hb<;>cases hb
 split at hb
 ·split at hb
  ·cases hb;lia
  ·exact mZ hb
 split at hb
 ·cases hb;lia
 ·cases hb
  rw [aL,hv]
  exact Nat.succ_le_succ (h _ rfl)
section
variable {ak:List bg}{s:RS}{n k:Nat}
theorem rQ (h:k<s.told.length):du ak s (some k)=s.note (some (if s.since.getD k 0<(s.done (ak.getD k dA).dF).length then [3,0] else s.told.getD k [])) 1:=if_pos h
theorem wH (h:¬k<s.told.length)(h2:(!decide ((ak.getD k dA).c.kind=5)&&ik ak (s.done (ak.getD k dA).dF))=true):du ak s (some k)=(s.tell [2,0] (s.done (ak.getD k dA).dF).length).note (some [2,0]) 1:=(if_neg h).trans (if_pos h2)
theorem rT (h:¬k<s.told.length)(h2:¬(!decide ((ak.getD k dA).c.kind=5)&&ik ak (s.done (ak.getD k dA).dF))=true):du ak s (some k)=(((s.zd (ak.getD k dA).c).GE (ak.getD k dA).dF k).tell (bF (ak.getD k dA).c (s.now (ak.getD k dA).c.key)) ((s.done (ak.getD k dA).dF).length+1)).note (some (bF (ak.getD k dA).c (s.now (ak.getD k dA).c.key))) (if (dp (ak.getD k dA).c (s.now (ak.getD k dA).c.key)).isSome then 3 else 2):=(if_neg h).trans (if_neg h2)
theorem rG {α:Type}{l:List α}{x:α}(h:l.length<=n):(l++ [x]).length<=n+1:=by
 rw [aL];exact Nat.succ_le_succ h
theorem ga.more (h:ga ak s n):ga ak s (n+1):=⟨Nat.le_succ_of_le h.r,Nat.le_succ_of_le h.c,Nat.le_succ_of_le h.t,h.st,λw=>Nat.le_succ_of_le (h.d w),h.dk,λk b q=>Nat.le_succ_of_le (h.nw k b q),λb q=>Nat.le_succ_of_le (h.tl b q)⟩
theorem ga.note (h:ga ak s (n+1))(hr:s.fB.length<=n)(hc:s.ef.length<=n){r:Option By}{c:Int}:ga ak (s.note r c) (n+1):=⟨rG hr,rG hc,h.t,h.st,h.d,h.dk,h.nw,h.tl⟩
theorem ga.tell (h:ga ak s (n+1))(ht:s.told.length<=n){m:Nat}(hb:b.length<=n+1+3):ga ak (s.tell b m) (n+1):=⟨h.r,h.c,rG ht,(aL (as:=s.since)).trans ((congrArg (·+1) h.st).trans (aL (as:=s.told) (bs:= [b])).symm),h.d,h.dk,h.nw,λx hx=>(gi hx).elim (h.tl x) λq=>eF q▸hb⟩
theorem ga.zd (h:ga ak s n){c:iY}(hv:c.value.length=1):ga ak (s.zd c) (n+1):=
 have m:=h.more
 ⟨m.r,m.c,m.t,m.st,m.d,m.dk,Ju h.nw (zT hv λb hb=>h.nw _ b hb),m.tl⟩
theorem ga.GE (h:ga ak s (n+1))(hd:∀w,(s.done w).length<=n)(hk:k<ak.length):ga ak (s.GE w k) (n+1):=
 ⟨h.r,h.c,h.t,h.st,λu=>by
  show (if u=w then s.done u++ [k] else s.done u).length<=_
  split
  ·exact rG (hd u)
  ·exact h.d u,λu x (hx:x∈if u=w then s.done u++ [k] else s.done u)=>by
  split at hx
  ·exact (gi hx).elim (h.dk u x) λq=>eF q▸hk
  ·exact h.dk u x hx,h.nw,h.tl⟩
theorem DY (hs:ga ak s n)(mq:lX ak){one:Option Nat}(ho:qQ ak s one):ga ak (du ak s one) (n+1):=by
 cases one with
 |none=>exact hs.more.note hs.r hs.c
 |some k=>
  obtain ⟨hk,ht⟩:=ho k rfl
  refine Ue (mq.ok _ (jP hk)) λu8 h6 uy hv u8=> ?_
  by_cases q:k<s.told.length
  ·rw [rQ q]
   exact hs.more.note hs.r hs.c
  by_cases z:(!decide ((ak.getD k dA).c.kind=5)&&ik ak (s.done (ak.getD k dA).dF))=true
  ·rw [wH q z]
   exact (hs.more.tell hs.t (cy (by decide:2<=3) (Nat.le_add_left 3 _))).note hs.r hs.c
  ·rw [rT q z]
   exact (((hs.zd hv).GE hs.d hk).tell hs.t (Nat.le_succ_of_le (pq λb hb=>hs.nw _ b hb))).note hs.r hs.c
end
noncomputable def ol (ak:List bg):RS->List bo->Prop
 |_, []=>True
 |s,e::r=>qQ ak s e.one/\ol ak (du ak s e.one) r
section
variable {H0 G:HP}{s:RS}{so:SO}{lg fO n:Nat}{ak:List bg}
theorem GD (hs:ga ak s n)(hn:n<50)(mq:lX ak){e:bo}(ho:qQ ak s e.one)(hA:H0[fO]? =some (.list (ak.map bg.sv)))(hD:dU U2 so s.now)(f:Nat->Option SV)(d:Nat){C:Prop}
  (K:∀fk G' f',aK P (run P (d+1)) nP (dJ (oH lg fO H0.length f) [8,9,10,11,12] [.int e.term, .int e.mem,e.er, .int (CX e.one),e.cr]) (rH H0 s so G)= .next (oH lg fO H0.length f') (rH H0 (du ak s e.one) fk G')->dU U2 fk (du ak s e.one).now->C):C:=by
 have IC:s.fB.length<60:=fM hs.r (dR hn (by decide))
 have Ia:s.ef.length<60:=fM hs.c (dR hn (by decide))
 obtain ⟨term,mem,er,one,cr⟩:=e
 dsimp only at ho K
 cases one with
 |none=>
  have c0:bV .ge (.int (-1)) (.int 0) (rH H0 s so G)=some false:=rfl
  exact K so G _ (nc (oH lg fO H0.length) (ae (bJ rfl) (ae (bJ rfl) (ae (cF (cM (iU (an rfl rfl c0))) (ae (cF (an rfl rfl c0) aj) aj)) (vg (rp:=none) (c:=1) rfl rfl rfl rfl IC Ia)))) rfl) hD
 |some k=>
  obtain ⟨hk,hle⟩:=ho k rfl
  have go:∀{fk:SO} {G' :HP} {f' :Nat->Option SV} {rp:By} {c:Int} {s' :RS},gJ P (run P (d+1)) (cL (bx 2 nP)) (oH lg fO H0.length (mA (fr (dJ (oH lg fO H0.length f) [8,9,10,11,12] [.int term, .int mem,er, .int k,cr])) k .none 1)) (rH H0 s so G)= .next (oH lg fO H0.length (mA f' k (.bytes rp) c)) (rH H0 s' fk G')->s'.fB.length<60->s'.ef.length<60->du ak s (some k)=s'.note (some rp) c->dU U2 fk s'.now->C:=λ{fk G' f' rp c s'} h h1 h2 e hd=>
   K fk G' _ (nc (oH lg fO H0.length) (ae (bJ rfl) (ae (bJ rfl) (ae h (e▸vg (rp:=some rp) (c:=c) rfl rfl rfl rfl h1 h2)))) rfl) (e▸hd)
  by_cases q:k<s.told.length
  ·exact go (C2 hA hk q hs.st _ (run P (d+1))) IC Ia (rQ q) hD
  obtain rfl:k=s.told.length:=Nat.le_antisymm hle (Nat.le_of_not_lt q)
  have O6:s.told.length<60:=fM hs.t (dR hn (by decide))
  by_cases z:(!decide ((ak.getD s.told.length dA).c.kind=5)&&ik ak (s.done (ak.getD s.told.length dA).dF))=true
  ·exact go (we hA hk hs.st O6 hs.dk z _ (run P (d+1))) IC Ia (wH q z) hD
  ·refine Ue (mq.ok _ (jP hk)) λK2 h6 uy hv u8=> ?_
   exact Ci hA hk hs.st O6 hs.dk (λw=>fM (hs.d w) (dR hn (by decide))) rfl (Bool.eq_false_iff.mpr z) hD K2.k0 h6 uy hv (λb hb=>cy (hs.nw _ b hb) (cy (Nat.le_of_lt hn) (by decide))) _ d λfk G' f' e1 d1=>
    go e1 IC Ia (rT q z) d1
theorem CS (mq:lX ak)(hA:H0[fO]? =some (.list (ak.map bg.sv))){log:List bo}(hL:H0[lg]? =some (.list (log.map bo.sv)))(d:Nat){C:Prop}(cS:List bo):∀(done:List bo) (s:RS) (so:SO) (G:HP) (f:Nat->Option SV) (n:Nat),log=done++cS->ga ak s n->n+cS.length<50->ol ak s cS->dU U2 so s.now->
  (∀fk G' f',forLoop [8,9,10,11,12] (λl H=>aK P (run P (d+1)) nP l H) (.ref lg) (cS.length+1) done.length (oH lg fO H0.length f) (rH H0 s so G)= .next (oH lg fO H0.length f') (rH H0 (cD ak s cS) fk G')->dU U2 fk (cD ak s cS).now->C)->C:=by
 induction cS with
 |nil=>
  intro done s so G f n e hs hn hw hD K
  rw [ch] at e
  refine K so G f (ju ?_) hD
  rw [cU (sO.at hL),e,List.getElem?_eq_none (Nat.le_of_eq (bI _))]
 |cons x t ih=>
  intro done s so G f n e hs hn hw hD K
  have hn:n+(t.length+1)<50:=hn
  have hit:cu (.ref lg) done.length (rH H0 s so G)=some (some x.sv):=by
   rw [cU (sO.at hL),e,eJ,eG (Nat.le_of_eq (bI _)),bI,Nat.sub_self]
   rfl
  refine GD (e:=x) (lg:=lg) (G:=G) hs (by lia) mq hw.1 hA hD f d λMa G1 f1 b2 b3=>ih (done++ [x]) (du ak s x.one) Ma G1 f1 (n+1) (by rw [e,bX];rfl) (DY hs mq hw.1) (by lia) hw.2 b3 λHv G2 f2 c1 c2=> ?_
  rw [aL (as:=done)] at c1
  exact K Hv G2 f2 (fq hit rfl b2 c1) c2
theorem TY {R:au}{H L:HP}:bj P R (.list .nil) l (H++L)= .ok (.ref (H.length+L.length)) (H++(L++ [.list []])):=by
 rw [<-bX,<-aL];rfl
theorem TX {R:au}{H L:HP}:bj P R .aM l (H++L)= .ok (.ref (H.length+L.length)) (H++(L++ [.aM])):=by
 rw [<-bX,<-aL];rfl
theorem S9 {R:au}{H L L2:HP}(h:dM P R es l (H++L)= .ok vs (H++L2)):bj P R (.list es) l (H++L)= .ok (.ref (H.length+L2.length)) (H++(L2++ [.list vs])):=by
 rw [bE h,<-bX,<-aL]
noncomputable def Vb (n:Nat):SV:= .tuple [.ref n, .ref (n+1), .ref (n+2), .ref (n+5), .ref (n+6)]
structure Jc (H:HP)(n:Nat)(s:RS)(so:SO):Prop where
 fB:H[n]? =some (.list (s.fB.map ob))
 ef:H[n+1]? =some (.list (iL s.ef))
 now:H[n+2]? =some so
 done:∀w,H[pP n w]? =some (.list (dn (s.done w)))
 lst:H[n+5]? =some (.list [.ref (n+3), .ref (n+4)])
 told:H[n+6]? =some (qD (s.told.map .bytes))
theorem Qb:Jc (rH H s so G) H.length s so:=⟨DB (k:=0) rfl,DB rfl,DB rfl,λw=>o8 w,DB rfl,DB rfl⟩
theorem Ef:ga ak mP 0:=⟨bS _,bS _,bS _,rfl,λu8=>bS _,λu8 u8 h=>(jZ h),λu8 u8 h=>(nomatch h),λu8 h=>(jZ h)⟩
theorem pt (mq:lX ak)(hA:H[fO]? =some (.list (ak.map bg.sv)))(hL:H[lg]? =some (.list (log.map bo.sv)))(hw:ol ak mP log)(hl:log.length<40)(d:Nat){C:Prop}
  (K:∀so H',run P (d+2) 99 [.ref lg, .ref fO] H= .ok (Vb H.length) H'->Gr H H'->Jc H' H.length (cD ak mP log) so->dU U2 so (cD ak mP log).now->C):C:=by
 refine CS mq hA hL d log [] mP .aM [] (λu8=>none) 0 rfl Ef (by lia) hw yR λso G f h1 h2=> ?_
 have hN:fa (.ref lg) (rH H mP .aM [])=log.length:=(d0 (sO.at hL)).trans (bI _)
 rw [<-hN] at h1
 exact K so _ (aF rfl rfl (ae (bJ (bE af)) (ae (bJ (TY (L:= [.list []]))) (ae (bJ (TX (L:= [.list [], .list []]))) (ae (bJ (S9 (L:= [.list [], .list [], .aM]) (aa TY (aa (TY (L:= [.list [], .list [], .aM, .list []])) af)))) (ae (bJ (TX (L:= [.list [], .list [], .aM, .list [], .list [], .list [.ref (H.length+3), .ref (H.length+4)]])))
  (ae (bJ (TX (L:= [.list [], .list [], .aM, .list [], .list [], .list [.ref (H.length+3), .ref (H.length+4)], .aM]))) (ae (f_ (v:= .ref lg) rfl h1) (aY (bK (cX (aa rfl (aa rfl (aa rfl (aa rfl (aa rfl af)))))))))))))))) sO Qb h2
end
noncomputable def kF (ak:List bg):Option Nat->rD
 |none=> .no
 |some k=> .cmd (ak.getD k dA).c (ak.getD k dA).dF
noncomputable def jA (ak:List bg)(s:RS)(w:Bool):kX:=match (s.done w).getLast? with
 |none=>none
 |some k=>some ((ak.getD k dA).c.number, !decide ((ak.getD k dA).c.kind=6),s.told.getD k [])
structure y8 (ak:List bg):Prop where
 up:∀i j,i<j->j<ak.length->(ak.getD i dA).dF=(ak.getD j dA).dF->(ak.getD i dA).c.number<(ak.getD j dA).c.number
noncomputable def TS (ak:List bg)(s:RS)(a:AS)(k:Nat):Prop:=
 (s.since.getD k 0<(s.done (ak.getD k dA).dF).length/\(ak.getD k dA).c.number<cG (a.S (ak.getD k dA).dF))∨
 (s.since.getD k 0=(s.done (ak.getD k dA).dF).length/\((s.done (ak.getD k dA).dF).getLast? =some k∨
  (cG (a.S (ak.getD k dA).dF)<(ak.getD k dA).c.number/\(ak.getD k dA).c.kind≠5/\cY (a.S (ak.getD k dA).dF)=false/\s.told.getD k []= [2,0])))
structure pM (ak:List bg)(s:RS)(a:AS):Prop where
 now:s.now=a.now
 S:∀w,a.S w=jA ak s w
 dw:∀w k,k∈s.done w->k<s.told.length/\(ak.getD k dA).dF=w
 ts:∀k,k<s.told.length->TS ak s a k
 len:s.since.length=s.told.length
theorem fW {α:Type}{l:List α}{x d:α}{k:Nat}(h:k<l.length):(l++ [x]).getD k d=l.getD k d:=by
 rw [List.getD_eq_getElem?_getD,List.getD_eq_getElem?_getD,iM h]
theorem mE {α:Type}{l:List α}{x d:α}:(l++ [x]).getD l.length d=x:=by
 rw [List.getD_eq_getElem?_getD,dW];rfl
theorem j8 {l:List Nat}{k:Nat}(h:l.getLast? =some k):k∈l:=List.mem_of_getLast? h
theorem uO {k:Nat}:(l++ [k]).getLast? =some k:=by rw [List.getLast?_append];rfl
noncomputable def pI (ak:List bg)(a:AS)(e:bo):AS:=GF a (a.idx+1) e.term (dC (fN e.mem)) (kF ak e.one)
noncomputable def xS (ak:List bg)(a:AS)(e:bo):List Op:=md a e.term (dC (fN e.mem)) (kF ak e.one)
section
variable {ak:List bg}{s:RS}{a:AS}{k:Nat}
theorem GU (hf:ja c (a.S w)=false):yB a (.cmd c w)=a.now/\NK a (.cmd c w)=a.S/\jn a (.cmd c w)= []:=by
 unfold yB NK jn kS
 dsimp only
 rw [hf]
 exact ⟨rfl,rfl,rfl⟩
theorem xZ {S:kX}(h:c.number<cG S):ja c S=false/\∀cx,f8 c S cx= [3,0]:=by
 refine ⟨?_,λcx=> ?_⟩
 ·unfold ja
  rw [bf h,Bool.true_or,Bool.or_true];rfl
 ·unfold f8
  rw [if_neg (by exact iN ‹_›),if_pos h];rfl
theorem G5 {c:iY}{S:kX}(h:c.number=cG S):ja c S=false/\∀cx,f8 c S cx=f0 S:=by
 refine ⟨?_,λcx=> ?_⟩
 ·unfold ja
  rw [bf h,Bool.true_or];rfl
 ·unfold f8
  rw [if_pos h]
theorem nZ {S:kX}(h:cG S<c.number)(h2:(!cY S&& !decide (c.kind=5))=true):ja c S=false/\∀cx,f8 c S cx= [2,0]:=by
 refine ⟨?_,λcx=> ?_⟩
 ·unfold ja
  rw [h2,Bool.or_true,Bool.or_true];rfl
 ·unfold f8
  rw [if_neg (by exact iO ‹_›),if_neg (by exact iP ‹_›),if_pos h2];rfl
theorem Hb {S:kX}(h:cG S<c.number)(h2:(!cY S&& !decide (c.kind=5))=false):ja c S=true/\∀cx,f8 c S cx=bF c cx:=by
 refine ⟨?_,λcx=> ?_⟩
 ·unfold ja
  rw [h2,aR (by exact iO ‹_›),aR (by exact iP ‹_›)];rfl
 ·unfold f8
  rw [if_neg (by exact iO ‹_›),if_neg (by exact iP ‹_›),if_neg (by rw [h2];decide)]
theorem Ik (hs:pM ak s a)(hu:y8 ak)(mq:lX ak)(hk:k<ak.length)(ht:k=s.told.length):cG (a.S (ak.getD k dA).dF)<(ak.getD k dA).c.number:=by
 rw [hs.S]
 unfold jA
 cases q:(s.done (ak.getD k dA).dF).getLast? with
 |none=>
  show (-1:Int)<_
  have:=(mq.ok _ (jP hk)).1.n0
  assumption
 |some j=>
  obtain ⟨h1,h2⟩:=hs.dw _ _ (j8 q)
  exact hu.up j k (by lia) hk h2
theorem FI (hs:pM ak s a)(w:Bool):ik ak (s.done w)= !cY (a.S w):=by
 rw [hs.S]
 unfold ik jA
 cases q:(s.done w).getLast? with
 |none=>rfl
 |some j=>
  show _= !(!decide ((ak.getD j dA).c.kind=6))
  rw [Bool.not_not]
theorem TS.st (h:b.S=a.S)(q:TS ak s a k):TS ak s b k:=by
 unfold TS
 rw [h];exact q
theorem pM.st (hs:pM ak s a)(h1:b.now=a.now)(h2:b.S=a.S):pM ak s b:=⟨hs.now.trans h1.symm,λw=>h2▸hs.S w,hs.dw,λk hk=>(hs.ts k hk).st h2,hs.len⟩
theorem pM.note (hs:pM ak s a){c:Int}:pM ak (s.note r c) a:=⟨hs.now,hs.S,hs.dw,hs.ts,hs.len⟩
noncomputable def NB (ak:List bg)(s:RS)(a:AS)(e:bo)(s' :RS):Prop:=pM ak s' (pI ak a e)/\s'.fB=s.fB++ [lW a (kF ak e.one)]/\s'.ef=s.ef++ [((xS ak a e).length:Int)]
theorem rN (he:e.one=some k)(hf:ja (ak.getD k dA).c (a.S (ak.getD k dA).dF)=false)(hr:f8 (ak.getD k dA).c (a.S (ak.getD k dA).dF) (a.now (ak.getD k dA).c.key)=rp)(h:pM ak s1 a)(h1:s1.fB=s.fB)(h2:s1.ef=s.ef):NB ak s a e (s1.note (some rp) 1):=by
 refine rm (GU hf) λq1 q2 q3=> ?_
 unfold NB pI xS md
 rw [he]
 refine ⟨h.note.st q1 q2, ?_, ?_⟩
 ·show s1.fB++ [some rp]=_
  rw [h1,<-hr];rfl
 ·show s1.ef++ [1]=_
  rw [h2,show jn a (kF ak (some k))= [] from q3];rfl
theorem vG {x:By}{m:Nat}{w:Bool}(hs:∀k∈s.done w,k<s.told.length):jA ak (s.tell x m) w=jA ak s w:=by
 unfold jA
 show (match (s.done w).getLast? with|none=>none|some k=>some ((ak.getD k dA).c.number, !decide ((ak.getD k dA).c.kind=6),(s.told++ [x]).getD k []))=_
 cases z:(s.done w).getLast? with
 |none=>rfl
 |some j=>exact congrArg (λb=>some ((ak.getD j dA).c.number, !decide ((ak.getD j dA).c.kind=6),b)) (fW (hs j (j8 z)))
theorem fY {α:Type}{l:List α}{x:α}:(l++ [x]).length=l.length+1:=aL
theorem pM.refuse (hs:pM ak s a)(uj:cG (a.S (ak.getD s.told.length dA).dF)<(ak.getD s.told.length dA).c.number)(h5:(ak.getD s.told.length dA).c.kind≠5)(ho:cY (a.S (ak.getD s.told.length dA).dF)=false):pM ak (s.tell [2,0] (s.done (ak.getD s.told.length dA).dF).length) a:=by
 refine ⟨hs.now,λw=>(hs.S w).trans (vG λk hk=>(hs.dw w k hk).1).symm,λw j hj=>⟨fY (l:=s.told)▸Nat.lt_succ_of_lt (hs.dw w j hj).1,(hs.dw w j hj).2⟩,λj hj=> ?_,fY.trans ((congrArg (·+1) hs.len).trans fY.symm)⟩
 by_cases y:j<s.told.length
 ·have:=hs.ts j y
  unfold TS at this⊢
  rw [<-fW (x:=(s.done (ak.getD s.told.length dA).dF).length) (show j<s.since.length from hs.len▸y),<-fW (x:= [2,0]) y] at this
  exact this
 ·have hj:j<s.told.length+1:=fY (l:=s.told)▸hj
  obtain rfl:j=s.told.length:=Nat.le_antisymm (Nat.le_of_lt_succ hj) (Nat.le_of_not_lt y)
  refine .inr ⟨?_, .inr ⟨uj,h5,ho,mE⟩⟩
  show (s.since++ [_]).getD s.told.length 0=_
  rw [<-hs.len]
  exact mE
set_option tactic.hygienic true in
theorem pM.Ru (hs:pM ak s a)(hu:y8 ak)(hk:s.told.length<ak.length)(hc:ak.getD s.told.length dA=⟨u,c⟩){b:AS}(h1:b.now=MB c.key (dp c (a.now c.key)) a.now)(h2:b.S=λx=>if x=u then some (pC c (a.now c.key)) else a.S x):
  pM ak (((s.zd c).GE u s.told.length).tell (bF c (s.now c.key)) ((s.done u).length+1)) b:=by
 refine ⟨?_,λw=> ?_,λw j hj=> ?_,λj hj=> ?_,fY.trans ((congrArg (·+1) hs.len).trans fY.symm)⟩
 ·rw [h1,<-hs.now];rfl
 ·rw [h2]
  show (if w=u then _ else _)=_
  unfold jA
  show _=match (if w=u then s.done w++ [s.told.length] else s.done w).getLast? with|none=>none|some k=>some ((ak.getD k dA).c.number, !decide ((ak.getD k dA).c.kind=6),(s.told++ [bF c (s.now c.key)]).getD k [])
  by_cases y:w=u
  ·rw [if_pos y,if_pos y,uO]
   show _=some ((ak.getD s.told.length dA).c.number, !decide ((ak.getD s.told.length dA).c.kind=6),(s.told++ [bF c (s.now c.key)]).getD s.told.length [])
   rw [hc,mE,hs.now];rfl
  ·rw [if_neg y,if_neg y,hs.S]
   exact (vG (s:=s) (x:=bF c (s.now c.key)) (m:=0) λk hk=>(hs.dw w k hk).1).symm
 ·have hj:j∈if w=u then s.done w++ [s.told.length] else s.done w:=hj
  rw [show (((s.zd c).GE u s.told.length).tell (bF c (s.now c.key)) ((s.done u).length+1)).told.length=s.told.length+1 from fY]
  have cx:j∈s.done w->j<s.told.length+1/\(ak.getD j dA).dF=w:=λh=>⟨Nat.lt_succ_of_lt (hs.dw w j h).1,(hs.dw w j h).2⟩
  split at hj
  ·rename_i y
   exact (gi hj).elim cx λq=>by rw [eF q];exact ⟨Nat.lt_succ_self _,(congrArg bg.dF hc).trans y.symm⟩
  ·exact cx hj
 ·have hj:j<s.told.length+1:=fY (l:=s.told)▸hj
  unfold TS
  rw [h2]
  show ((s.since++ [(s.done u).length+1]).getD j 0<(if (ak.getD j dA).dF=u then s.done (ak.getD j dA).dF++ [s.told.length] else s.done (ak.getD j dA).dF).length/\_<cG (if (ak.getD j dA).dF=u then _ else _))∨
   ((s.since++ [(s.done u).length+1]).getD j 0=(if (ak.getD j dA).dF=u then s.done (ak.getD j dA).dF++ [s.told.length] else s.done (ak.getD j dA).dF).length/\((if (ak.getD j dA).dF=u then s.done (ak.getD j dA).dF++ [s.told.length] else s.done (ak.getD j dA).dF).getLast? =some j∨
    (cG (if (ak.getD j dA).dF=u then _ else _)<_/\_/\cY (if (ak.getD j dA).dF=u then _ else _)=false/\(s.told++ [bF c (s.now c.key)]).getD j []= [2,0])))
  by_cases y:j<s.told.length
  ·rw [fW y,fW (hs.len▸y)]
   by_cases x:(ak.getD j dA).dF=u
   ·rw [if_pos x,if_pos x,fY]
    refine .inl ⟨?_, ?_⟩
    ·rcases hs.ts j y with ⟨t1,_⟩|⟨t1,_⟩
     ·exact Nat.lt_succ_of_lt t1
     ·rw [t1];exact Nat.lt_succ_self _
    ·have:=hu.up j s.told.length y hk (x.trans (by rw [hc]))
     rw [hc] at this
     exact this
   ·rw [if_neg x,if_neg x]
    exact hs.ts j y
  ·obtain rfl:j=s.told.length:=Nat.le_antisymm (Nat.le_of_lt_succ hj) (Nat.le_of_not_lt y)
   rw [if_pos (by rw [hc]),fY]
   refine .inr ⟨?_, .inl uO⟩
   rw [hc,<-hs.len,mE]
theorem IJ (hf:ja c (a.S w)=true):((jn a (.cmd c w)++ [o]).length:Int)=if (dp c (a.now c.key)).isSome then 3 else 2:=by
 show ((kS _ _ _ _++_).length:Int)=_
 unfold kS
 rw [if_pos hf]
 cases dp c (a.now c.key) with
 |none=>rfl
 |some v=>cases v<;>rfl
theorem xK (hs:pM ak s a)(hu:y8 ak)(mq:lX ak)(ho:qQ ak s e.one):NB ak s a e (du ak s e.one):=by
 cases he:e.one with
 |none=>
  unfold NB pI xS md
  rw [he]
  exact ⟨hs.note.st rfl rfl,rfl,rfl⟩
 |some k=>
  obtain ⟨hk,hle⟩:=ho k he
  by_cases q:k<s.told.length
  ·rw [rQ q]
   rcases hs.ts k q with ⟨t1,t2⟩|⟨t1,t2|⟨t2,t3,t4,t5⟩⟩
   ·rw [if_pos t1]
    exact rN he (xZ t2).1 ((xZ t2).2 _) hs rfl rfl
   ·have hS:a.S (ak.getD k dA).dF=some ((ak.getD k dA).c.number, !decide ((ak.getD k dA).c.kind=6),s.told.getD k []):=by
     rw [hs.S]
     unfold jA
     rw [t2]
    have hf:=G5 (c:=(ak.getD k dA).c) (S:=a.S (ak.getD k dA).dF) (by rw [hS];rfl)
    rw [if_neg (Nat.not_lt.mpr (Nat.le_of_eq t1.symm))]
    exact rN he hf.1 ((hf.2 _).trans (by rw [hS];rfl)) hs rfl rfl
   ·have hf:=nZ t2 (by rw [t4,aR t3];rfl)
    rw [if_neg (Nat.not_lt.mpr (Nat.le_of_eq t1.symm)),t5]
    exact rN he hf.1 (hf.2 _) hs rfl rfl
  obtain rfl:k=s.told.length:=Nat.le_antisymm hle (Nat.le_of_not_lt q)
  have uj:=Ik hs hu mq hk rfl
  have Nu:=FI hs (ak.getD s.told.length dA).dF
  by_cases z:(!decide ((ak.getD s.told.length dA).c.kind=5)&&ik ak (s.done (ak.getD s.told.length dA).dF))=true
  ·rw [wH q z]
   rw [Nu,Bool.and_comm] at z
   have z' :=jF z
   exact rN he (nZ uj z).1 ((nZ uj z).2 _) (hs.refuse uj (by simpa using z'.2) (by simpa using z'.1)) rfl rfl
  ·rw [rT q z]
   rw [Nu,Bool.and_comm] at z
   obtain ⟨f1,f2⟩:=Hb uj (Bool.eq_false_iff.mpr z)
   have d:=hs.Ru hu hk (b:=pI ak a e) rfl (by
    unfold pI
    rw [he]
    exact if_pos f1) (by
    unfold pI
    rw [he]
    exact if_pos f1)
   unfold NB xS md
   rw [he]
   rw [hs.now] at d⊢
   refine ⟨d.note, ?_, ?_⟩
   ·show s.fB++ [_]=s.fB++ [some _]
    rw [f2]
   ·exact congrArg (λz=>s.ef++ [z]) (IJ f1).symm
end
noncomputable def Dp:Nat->SV->Prop
 |0,_=>False
 |n+1,v=>match v with
  | .none=>True
  | .bool _=>True
  | .int _=>True
  | .bytes _=>True
  | .tuple vs=>∀x∈vs,Dp n x
  |_=>False
theorem sU:∀{vs:List SV},(∀x∈vs,f x x=some true)->uA f vs vs=some true
 | [],_=>rfl
 |x::r,h=>by
  show (match f x x,uA f r r with|some a,some b=>some (a&&b)|_,_=>none)=_
  rw [h x (.head _),sU λy hy=>h y (.tail _ hy)]
  rfl
theorem oY:∀(n:Nat) (v:SV),Dp n v->ud n v v=some true
 |0,_,h=>h.elim
 |n+1,v,h=>by
  cases v with
  |none=>rfl
  |bool b=>exact congrArg some (iV b)
  |int i=>exact congrArg some (iV i)
  |bytes b=>exact congrArg some (iV b)
  |tuple vs=>exact sU λx hx=>oY n x (h x hx)
  |_=>exact h.elim
theorem rR {H:HP}(hr:∀i,v≠ .ref i)(h:Dp 6 v):bV .ne v v H=some false:=by
 have:=oY 6 v h
 cases v with
 |ref i=>exact absurd rfl (hr i)
 |_=>exact congrArg (λo:Option Bool=>o.map (λz=> !z)) this
theorem eq_self (hr:∀i,v≠ .ref i)(h:Dp 6 v):bV .eq v v H=some true:=by
 have:=oY 6 v h
 cases v with
 |ref i=>exact absurd rfl (hr i)
 |_=>exact this
theorem Hn {i j:Nat}(hi:H[i]? =some (.list vs))(hj:H[j]? =some (.list vs))(h:∀v∈vs,Dp 6 v):bV .ne (.ref i) (.ref j) H=some false:=by
 show (match H[i]?,H[j]? with
   |some (.list x),some (.list y)=>if x.length=y.length then (uA (ud BE) x y).map (λz=> !z) else some true
   |_,_=>none)=_
 rw [hi,hj]
 dsimp only
 rw [if_pos rfl,show uA (ud BE) vs vs=some true from sU λx hx=>oY 6 x (h x hx)]
 rfl
section
variable {α:Type}{enc f:α->SV}{p:α->Bool}{w:Nat}{k:EK}{t:Option (SE×SE)}{v:SV}{l:cR}{H:HP}{xs:List α}
theorem A9 (hi:∀j,cu v j H=some ((xs.map enc)[j]?))(hx:∀x∈xs,∃cv,pb w (enc x)=some cv/\o0 t l cv H=some (p x)/\(p x=true->Lr k l cv H=some (f x))):
  ∀(cS done:List α),xs=done++cS->gH w k t v l H (cS.length+1) done.length=some ((cS.filter p).map f)
 | [],done,e=>by
  rw [ch] at e
  subst e
  show (match cu v xs.length H with|none=>none|some none=>some []|some (some y)=>_)=_
  rw [hi,List.getElem?_eq_none (by rw [bI];exact bS _)]
  rfl
 |x::r,done,e=>by
  obtain ⟨cv,h1,h2,h3⟩:=hx x (by rw [e];simp)
  have ih:=A9 hi hx r (done++ [x]) (by rw [e,bX];rfl)
  rw [aL (as:=done)] at ih
  have VA:gH w k t v l H (r.length+1) (done.length+1)=some ((r.filter p).map f):=ih
  show (match cu v done.length H with
   |none=>none
   |some none=>some []
   |some (some y)=>(pb w y).bind λcv=>(o0 t l cv H).bind λb=>(match b with
    |false=>gH w k t v l H (r.length+1) (done.length+1)
    |true=>(Lr k l cv H).bind λx=>(gH w k t v l H (r.length+1) (done.length+1)).map (x:: ·)))=_
  have hit:(xs.map enc)[done.length]? =some (enc x):=by
   rw [e,eJ,eG (by rw [bI];exact bS _),bI,Nat.sub_self]
   rfl
  rw [hi,hit]
  dsimp only
  rw [h1]
  show (o0 t l cv H).bind _=_
  rw [h2]
  show (match p x with|false=>_|true=>_)=_
  cases q:p x with
  |false=>
   dsimp only
   rw [VA,List.filter_cons_of_neg (by rw [q];decide)]
  |true=>
   dsimp only
   rw [h3 q,VA,List.filter_cons_of_pos q]
   rfl
theorem pD (hi:∀j,cu v j H=some ((xs.map enc)[j]?))(hn:fa v H=xs.length)(hb:kE v=false)(hx:∀x∈xs,∃cv,pb w (enc x)=some cv/\o0 t l cv H=some (p x)/\(p x=true->Lr k l cv H=some (f x)))(hl:xs.length<=4096):
  gm w k t v l H=some ((xs.filter p).map f):=by
 show (if kE v=true then none else (gH w k t v l H (fa v H+1) 0).bind λvs=>if vs.length<=big then some vs else none)=_
 rw [hb,if_neg (by decide),hn]
 have:=A9 hi hx xs [] rfl
 rw [show ([]:List α).length=0 from rfl] at this
 rw [this]
 have hle:=List.length_filter_le p xs
 exact if_pos (by rw [bI];show _<=4096;exact cy ‹_› ‹_›)
theorem Hh {R:au}{i:Nat}(h:bj P R it l H= .ok v H1)(h2:gm w k t v l H1=some vs):gJ P R (.comp i w k t it) l H= .next (al l i (.ref H1.length)) (H1++ [SO.list vs]):=by
 show (bj P R it l H).then l _=_
 rw [h]
 show (match gm w k t v l H1 with|some vs=>cQ.next (al l i (.ref H1.length)) (H1++ [SO.list vs])|none=> .bad)=_
 rw [h2]
theorem IE {R:au}{i r:Nat}(h0:l[i]? =some (some (.ref r)))(h:bj P R it l H= .ok v H1)(h2:gm w k none v l H1=some vs)(h3:H1[r]? =some (.list cx))(hl:cx.length+vs.length<=4096):gJ P R (.lb i w k it) l H= .next (al l i (.ref (H1.length+1))) ((H1++ [SO.list vs])++ [SO.list (cx++vs)]):=by
 show (match l[i]? with
  |some (some (.ref r))=>(bj P R it l H).then l λv H=>(match gm w k none v l H with
   |some vs=>(match H[r]? with
    |some (.list cx)=>if cx.length+vs.length<=big then cQ.next (al l i (.ref (H.length+1))) ((H++ [SO.list vs])++ [SO.list (cx++vs)]) else .bad
    |_=> .bad)
   |none=> .bad)
  |_=> .bad)=_
 rw [h0]
 show (bj P R it l H).then l _=_
 rw [h]
 show (match gm w k none v l H1 with
   |some vs=>(match H1[r]? with
    |some (.list cx)=>if cx.length+vs.length<=big then cQ.next (al l i (.ref (H1.length+1))) ((H1++ [SO.list vs])++ [SO.list (cx++vs)]) else .bad
    |_=> .bad)
   |none=> .bad)=_
 rw [h2]
 show (match H1[r]? with
    |some (.list cx)=>if cx.length+vs.length<=big then cQ.next (al l i (.ref (H1.length+1))) ((H1++ [SO.list vs])++ [SO.list (cx++vs)]) else .bad
    |_=> .bad)=_
 rw [h3]
 exact if_pos hl
end
theorem em {r:Nat}(h:H[r]? =some (.list vs)):∀j,cu (.ref r) j H=some (vs[j]?):=λj=>cU h
theorem DZ {r:Nat}(h:H[r]? =some (.list (iL xs))):Mine.bG Bi.sum [.ref r] H= .ok (.int xs.sum) H:=by
 show (match H[r]? with
   |some (.list vs)=>(match bT vs with
    |some l=>dz.ok (SV.int l.sum) H
    |none=> .bad)
   |_=> .bad)=_
 rw [h]
 dsimp only
 rw [qy]
theorem eQ.ke {si di bi:Nat}{aU aW:Int}(h:eQ H si di bi D bl aU aW)(g:Ke H H'):eQ H' si di bi D bl aU aW:=
 ⟨g _ _ h.st,h.dd.imp λu8 z=>⟨g _ _ z.1,z.2⟩,g _ _ h.bb,λp hp=>⟨g _ _ (h.at_ p hp).1,(h.at_ p hp).2⟩⟩
theorem Gp {p:Nat}{o:SO}(k:Ke H1 H)(h:H1.length<=p):Ke H1 (H.set p o):=λi x e=>by
 have:=(gw e).1
 exact (eM (by lia)).trans (k i x e)
theorem hM {a b c:By}(h:a.length+b.length<=4096)(e:a++b=c):cE .add (.bytes a) (.bytes b) H= .ok (.bytes c) H:=by
 rw [<-e]
 exact if_pos h
theorem o7 {H:HP}{o:SO}{k:Nat}(hv:vs[k]? =some v):dH (.ref H.length) (.int k) (H++ [.list vs])= .ok v (H++ [.list vs]):=gz (dW ..) hv
noncomputable def Lh:cA:=te (cL (bx 6 BU))
noncomputable def zL (a:AS)(w:Bool):List SV:=match a.S w with
 |none=> []
 |some s=> [pn (w,s)]
noncomputable def zu (a:AS)(w:Bool):List SV:=match a.S w with
 |none=> []
 |some s=> [pv (dc w,ff s)]
theorem iZ {n:Nat}:Dp (n+1) (.tuple []):=λu8 hz=>jZ hz
theorem bN {n:Nat}(h:Dp n x)(h2:Dp (n+1) (.tuple xs)):Dp (n+1) (.tuple (x::xs)):=λy hy=>(cH hy).elim (λe=>e▸h) (h2 y)
theorem Am {α:Type}{n:Nat}{g:α->SV}{xs:List α}(h:∀x,Dp n (g x)):Dp (n+1) (.tuple (xs.map g)):=λz hz=>by
 refine aZ (gD hz) λx u8 de=> ?_;subst de
 exact h x
theorem FJ (s:kX):(∀i,ur s≠ .ref i)/\Dp 6 (ur s):=by
 unfold ur
 cases s with
 |none=>exact ⟨λu8 z=>(nomatch z),trivial⟩
 |some s=>
  dsimp only
  split
  ·exact ⟨λu8 z=>(nomatch z),bN trivial (bN trivial iZ)⟩
  ·exact ⟨λu8 z=>(nomatch z),trivial⟩
structure Wq where
 si:Nat
 mi:Nat
 lg:Nat
 fO:Nat
 n:Nat
noncomputable def xo (z:Wq)(f:Nat->Option SV):cR:= [some (.ref z.si),some (.ref z.mi),some (.ref z.lg),some (.ref z.fO),some (.ref z.n),some (.ref (z.n+1)),some (.ref (z.n+2)),some (.ref (z.n+5)),some (.ref (z.n+6)),f 9,f 10,f 11,f 12,f 13,f 14,f 15,f 16,f 17,f 18,f 19,f 20]
noncomputable def DH (f:Nat->Option SV)(cb:By)(r p q:Nat)(i:Option SV):Nat->Option SV
 |9=>some (.bytes cb)
 |11=>some (.ref r)
 |12=>some (.ref p)
 |13=>some (.ref q)
 |14=>i
 |k=>f k
section
variable {H1 H:HP}{z:Wq}{di bi p q r:Nat}{aU aW aO:Int}{sync:Bool}{bl:List (Nat×List Op)}{a:AS}{ak:List bg}{s:RS}{so:SO}{w:Bool}{d6 yc:List SV}
theorem GP (hs:pM ak s a){st:Int×Bool×By}(h:a.S w=some st){C:Prop}(K:∀ys y,s.done w=ys++ [y]->y∈s.done w->st=((ak.getD y dA).c.number, !decide ((ak.getD y dA).c.kind=6),s.told.getD y [])->C):C:=by
 have hS:=h.symm.trans (hs.S w)
 unfold jA at hS
 cases y:(s.done w).getLast? with
 |none=>rw [y] at hS;exact GG hS
 |some j=>
  rw [y] at hS
  obtain ⟨ys,hy⟩:=List.getLast?_eq_some_iff.mp y
  exact K ys j hy (j8 y) (cq hS)
theorem HB (hs:pM ak s a)(h:a.S w=none):s.done w= []:=by
 have hS:=h.symm.trans (hs.S w)
 unfold jA at hS
 cases y:(s.done w).getLast? with
 |none=>exact List.getLast?_eq_none_iff.mp y
 |some j=>rw [y] at hS;exact mZ hS
theorem J7 {y:Nat}(h:y<s.told.length):(s.told.map SV.bytes)[y]? =some (.bytes (s.told.getD y [])):=by
 rw [hV,List.getD_eq_getElem?_getD,eW h];rfl
theorem IL {y:Nat}(h:y<s.told.length)(hl:∀b∈s.told,b.length<=60):(s.told.getD y []).length<=60:=by
 rw [List.getD_eq_getElem?_getD,eW h]
 exact hl _ (List.getElem_mem h)
theorem GC {op:Bool}{n:Nat}(h:n<=60):lG [if op then 1 else 0,(n:Int)]=true:=by
 have h1:(decide ((0:Int)<=n)&&(decide ((n:Int)<256))&&true)=true:=by rw [bf (by exact fw _),bf (by exact iG ‹_› rfl)];rfl
 cases op<;>exact h1
theorem Iq (w:Bool):lG [cl w/256,cl w%256]=true:=by cases w<;>rfl
theorem HX (w:Bool):([115,0,0,0,0,0,0]++ [cl w/256,cl w%256]:By)=dc w:=by cases w<;>rfl
theorem KV (w:Bool)(H:HP):dH (.ref H.length) (.int (wi w)) (H++ [.list [.int 5, .int 300]])= .ok (.int (cl w)) (H++ [.list [.int 5, .int 300]]):=by
 cases w
 ·exact o7 (o:= .aM) (k:=0) rfl
 ·exact o7 (o:= .aM) (k:=1) rfl
theorem E9 {num:Int}{y:Nat}(n0:0<=num)(n1:num<16384)(hr:rp.length<=60)(h8:l[8]? =some (some (.ref (z.n+6))))(NA:l[17]? =some (some (.int y)))(UG:l[18]? =some (some (.int num)))(YI:l[19]? =some (some (.bool op)))(ht:∀{H'},Ke H1 H'->dH (.ref (z.n+6)) (.int y) H' = .ok (.bytes rp) H')(k:Ke H1 H)(d:Nat){C:Prop}
  (K:∀H',bj P (run P (d+6)) (.bin .add (.bin .add (.fS 97 (.cons (.loc 18) .nil)) (.bG .bytes (.cons (.list (.cons (.ite (.loc 19) (.int 1) (.int 0)) (.cons (.bG .len (.cons (.sub (.loc 8) (.loc 17)) .nil)) .nil))) .nil))) (.sub (.loc 8) (.loc 17))) l H= .ok (.bytes (yi num op rp)) H'->Gr H H'->C):C:=by
 refine aZ (oi n0 n1 (d+5) H) λH3 e3 g3=> ?_
 have k3:=k.trans g3.ke
 have g4:Gr H3 (H3++ [SO.list [.int (if op then 1 else 0), .int rp.length]]):=⟨_,rfl⟩
 have b4:=cJ (H:=H3++ [SO.list [.int (if op then 1 else 0), .int rp.length]]) (dW ..) rfl (GC (op:=op) hr)
 have lv:=jz num
 exact K _ (aJ (aJ (cz (aa (bc UG) af) e3) (bq (aa (bE (aa (DS (q:=op) (v:= .int (if op then 1 else 0)) (gA YI) (λz=>by rw [z];rfl) (λz=>by rw [z];rfl)) (aa (bq (aa (aN (bc h8) (bc NA) (ht k3)) af) qB) af))) af) b4)
  (hM (by show (vb num).length+2<=4096;lia) rfl)) (aN (bc h8) (bc NA) (ht (k3.trans g4.ke))) (hM (by rw [aL];show _+2+_<=4096;lia) (by rw [bX];rfl))) (g3.trans g4)
theorem u2 (hm:H1[z.mi]? =some (aX z.si a.idx a.term a.aP aO sync))(cI:eQ H1 z.si di bi (fV a) bl aU aW)(ha:nX a)(mq:lX ak)(zt:pM ak s a)(Nh:∀w x,x∈s.done w->x<ak.length)(Km:∀b∈s.told,b.length<=60)
  (hA:H1[z.fO]? =some (.list (ak.map bg.sv))) (rd:Jc H1 z.n s so) (k:Ke H1 H) (hp:H[p]? =some (.list d6)) (hq:H[q]? =some (.list yc)) (np:H1.length<=p) (nq:H1.length<=q) (NX:p≠q) (la:d6.length<64) (Ww:yc.length<64) (f:Nat->Option SV) (cb:By) (d:Nat) {C:Prop}
  (K:∀f' H',aK P (run P (d+6)) Lh (xo z (DH f cb r p q (some (.int (wi w))))) H= .next (xo z (DH f' cb r p q (some (.int (wi w))))) H'->(∀(i:Nat) (o:SO),i≠p->i≠q->H[i]? =some o->H'[i]? =some o)->H'[p]? =some (.list (d6++zL a w))->H'[q]? =some (.list (yc++zu a w))->C):C:=by
 have g1:Gr H (H++ [SO.list [.int 5, .int 300]]):=⟨_,rfl⟩
 have k1:=k.trans g1.ke
 have e1:=qJ (d+5) H
 have s1:=KV w H
 generalize H.length=Ua at s1 e1
 generalize H++ [SO.list [.int 5, .int 300]]=H2 at*
 have hl:=ca (k1 _ _ (rd.done w))
 rw [js] at hl
 unfold zL zu at K
 cases hz:a.S w with
 |none=>
  rw [HB zt hz] at hl
  refine aZ (uW (w:=w) (k1 _ _ hm) (cI.ke k1) ha d) λH3 e2 g2=> ?_
  rw [hz] at e2 K
  exact K _ H3 (nc (λf' =>xo z (DH f' cb r p q (some (.int (wi w))))) (ae (bJ (aN (cz af e1) rfl s1)) (ae (bJ rfl) (ae (cF (an (bq (aa (aN rfl rfl (kt w (k1 _ _ rd.lst))) af) hl) rfl (jI rfl)) aj)
   (ae (cF (an (aw (q:= .fn 80) (v:= .ref z.mi) (R:=run P (d+6)) rfl (bO (k1 _ _ hm)) (aa rfl af) e2) rfl rfl) aj) aj)))) rfl) (λi o u8 u8 e=>g2.at (g1.at e)) ((ch d6).symm▸g2.at (g1.at hp)) ((ch yc).symm▸g2.at (g1.at hq))
 |some st=>
  rw [hz] at K
  refine GP zt hz λys y VH U1 Tk=> ?_
  have Uq:=Nh w y U1
  have Vo:=(zt.dw w y U1).1
  have hb:=(mq.ok _ (jP Uq)).1
  have Cg:=rd.done w
  rw [VH,<-mW] at Cg
  rw [VH] at hl
  have Y3:=J7 Vo
  have RF:=IL Vo Km
  have a3:=me (k1 _ _ hA) Uq
  have n0:=hb.n0
  have n1:=hb.n1
  generalize s.told.getD y []=rp at*
  generalize ak.getD y dA=u at*
  have t8:∀{H},Ke H1 H->dH (.ref (z.n+6)) (.int y) H= .ok (.bytes rp) H:=λk=>wt (k _ _ rd.told) Y3
  have p1:=g1.at hp
  have e2:=jT (R:=run P (d+6)) (v:=pn (w,st)) p1 (dR la (by decide))
  have k2:=Gp (o:= .list (d6++ [pn (w,st)])) k1 np
  have j2:∀(i:Nat) (o:SO),i≠p->H[i]? =some o->(H2.set p (.list (d6++ [pn (w,st)])))[i]? =some o:=λi o h e=>bP h (g1.at e)
  have p2:=eB (o:= .list (d6++ [pn (w,st)])) p1
  generalize H2.set p (.list (d6++ [pn (w,st)]))=H3 at*
  refine E9 (H1:=H1) (H:=H3) (z:=z) (op:= !decide (u.c.kind=6)) (y:=y) n0 n1 RF (l:=al (al (al (al (al (xo z (DH f cb r p q (some (.int (wi w))))) 15 (.int (cl w))) 16 (ur (some st))) 17 (.int y)) 18 (.int u.c.number)) 19 (.bool (!decide (u.c.kind=6)))) rfl rfl rfl rfl t8 k2 d λH4 Yb g4=> ?_
  have q5:=g4.at (j2 q _ (Ne.symm NX) hq)
  have g5:Gr H4 (H4++ [SO.list [.int (cl w/256), .int (cl w%256)]]):=⟨_,rfl⟩
  have b5:=cJ (H:=H4++ [SO.list [.int (cl w/256), .int (cl w%256)]]) (dW ..) (is:= [cl w/256,cl w%256]) rfl (Iq w)
  have c6:∀H,cE .add (.bytes [115,0,0,0,0,0,0]) (.bytes [cl w/256,cl w%256]) H= .ok (.bytes (dc w)) H:=λH=>hM (show 7+2<=4096 by decide) (HX w)
  have e6:=jT (R:=run P (d+6)) (v:=pv (dc w,ff st)) (g5.at q5) (dR Ww (by decide))
  have UF:=g4.trans g5
  have k6:=Gp (o:= .list (yc++ [pv (dc w,ff st)])) (k2.trans UF.ke) nq
  have j6:∀(i:Nat) (o:SO),i≠q->H3[i]? =some o->((H4++ [SO.list [.int (cl w/256), .int (cl w%256)]]).set q (.list (yc++ [pv (dc w,ff st)])))[i]? =some o:=λi o h2 e=>bP h2 (UF.at e)
  have q6:=eB (o:= .list (yc++ [pv (dc w,ff st)])) (g5.at q5)
  generalize (H4++ [SO.list [.int (cl w/256), .int (cl w%256)]]).set q (.list (yc++ [pv (dc w,ff st)]))=H6 at*
  refine aZ (uW (w:=w) (k6 _ _ hm) (cI.ke k6) ha d) λH7 e7 g7=> ?_
  rw [hz] at e7
  subst Tk
  have Zf:gJ P (run P (d+6)) (.ifs (.loc 19) (.cons (.j4 (.name 16) (.tuple (.cons (.loc 18) (.cons (.sub (.loc 8) (.loc 17)) .nil)))) .nil) .nil) (al (al (al (al (al (xo z (DH f cb r p q (some (.int (wi w))))) 15 (.int (cl w))) 16 .none) 17 (.int y)) 18 (.int u.c.number)) 19 (.bool (!decide (u.c.kind=6)))) H3=
    .next (al (al (al (al (al (xo z (DH f cb r p q (some (.int (wi w))))) 15 (.int (cl w))) 16 (ur (some (u.c.number, !decide (u.c.kind=6),rp)))) 17 (.int y)) 18 (.int u.c.number)) 19 (.bool (!decide (u.c.kind=6)))) H3:=by
   cases !decide (u.c.kind=6) with
   |false=>exact cF (gA rfl) aj
   |true=>exact eZ (gA rfl) (ae (bJ (cX (aa rfl (aa (aN rfl rfl (t8 k2)) af)))) aj)
  exact K _ H7 (nc (λf' =>xo z (DH f' cb r p q (some (.int (wi w))))) (ae (bJ (aN (cz af e1) rfl s1)) (ae (bJ rfl) (ae (eZ (an (bq (aa (aN rfl rfl (kt w (k1 _ _ rd.lst))) af) hl) rfl (jI (bf (by rw [aL];exact Int.natCast_pos.mpr (Nat.succ_pos _)))))
   (ae (bJ (aN (aN rfl rfl (kt w (k1 _ _ rd.lst))) rfl (en (k1 _ _ Cg)))) (ae (bJ (aN (aN rfl rfl a3) rfl (o:= .ok (.int u.c.number) _) rfl)) (ae (bJ (fU (aN (aN rfl rfl a3) rfl (o:= .ok (.int u.c.kind) _) rfl) rfl (k8 _ _ _))) (ae (bZ (aw rfl (bO p1) (aa (cX (aa rfl (aa rfl (aa rfl (aa (aN rfl rfl (t8 k1)) af))))) af) e2)) (ae Zf (ae (bJ Yb)
    (ae (bZ (aw rfl (bO q5) (aa (cX (aa (aJ rfl (bq (aa (bE (aa (aJ rfl rfl (mQ (by decide) (by decide))) (aa (aJ rfl rfl (fE (by decide) (by decide))) af))) af) b5) (c6 _)) (aa rfl af))) af) e6)) aj))))))))
   (ae (cF (an (aw (q:= .fn 80) (v:= .ref z.mi) (R:=run P (d+6)) rfl (bO (k6 _ _ hm)) (aa rfl af) e7) rfl (rR (H:=H7) (FJ _).1 (FJ _).2)) aj) aj)))) rfl) (λi o h1 h2 e=>g7.at (j6 i o h2 (j2 i o h1 e))) (g7.at (j6 p _ NX p2)) (g7.at q6)
end
end Mine
set_option maxHeartbeats 2000000
namespace Mine
open PySem
theorem Pi:U2.Pairwise (λa b=>ig a b=true):=by decide
theorem I0 (a:AS):((U2.filter λk=>(a.now k).isSome).filter λu8=>true).map (λk=>pv (k,(a.now k).getD []))=(dQ a).map pv:=by
 unfold dQ lZ U2
 cases h1:a.now []<;>cases h2:a.now [107]<;>simp [h1,h2]
theorem jU {α:Type}:∀(l:List α),l.filter (λu8=>true)=l
 | []=>rfl
 |x::r=>congrArg (x:: ·) (jU r)
theorem GH (h:r∈dQ a):(r.1= []∨r.1= [107]):=by
 unfold dQ lZ at h
 rcases gi h with h|h
 ·split at h
  ·exact jZ h
  ·rw [eF h];exact .inl rfl
 ·split at h
  ·exact jZ h
  ·rw [eF h];exact .inr rfl
theorem xu (a:AS):(dQ a).length<=2:=by unfold dQ;cases a.now []<;>cases a.now [107]<;>exact Nat.le_of_ble_eq_true rfl
theorem JX (a:AS):([pv ([97],fy a.idx a.term a.aP)]++((dQ a).filter λu8=>true).map (λr=>pv (100::r.1,r.2))++zu a false)++zu a true=((U5.map (oq (fV a) none none)).flatten).map pv:=by
 rw [HA]
 unfold dQ zu
 cases a.now []<;>cases a.now [107]<;>cases a.S false<;>cases a.S true<;>rfl
theorem J9 (a:AS):([]++zL a false)++zL a true=(pp a).map pn:=by
 unfold pp zL
 cases a.S false<;>cases a.S true<;>rfl
theorem O8 {n:Nat}(p:By×By):Dp (n+2) (pv p):=bN trivial (bN trivial iZ)
theorem Rf (p:Bool×(Int×Bool×By)):Dp 5 (pn p):=bN trivial (bN trivial (bN trivial (bN trivial iZ)))
theorem LS (a:AS):Dp 6 (.tuple [.int a.idx, .int a.term, .bytes a.aP, .tuple ((dQ a).map pv), .tuple ((pp a).map pn)]):=
 bN trivial (bN trivial (bN trivial (bN (Am λu8=>bN trivial (bN trivial iZ)) (bN (Am λu8=>bN trivial (bN trivial (bN trivial (bN trivial iZ)))) iZ))))
theorem yF {lo hi:Int}(h0:0<=lo)(h1:hi<=256)(e:fD lo hi=c):Mine.bG Bi.bytes [.range lo hi] H= .ok (.bytes c) H:=by
 rw [<-e]
 exact if_pos ⟨h0,h1⟩
theorem jW {lo hi:Int}(h0:0<=lo)(h1:lo<=hi)(h2:hi<=4096):Mine.bG Bi.range [.int lo, .int hi] H= .ok (.range lo hi) H:=if_pos ⟨h0,h1,h2⟩
theorem sy (m:Nat):fD 1 ((m:Int)+1)=fN m:=by
 unfold fD fN
 rw [show ((m:Int)+1 - 1).toNat=m by lia]
 apply List.map_congr_left
 intro k _
 lia
theorem t9 (m:Nat):(fN m).length=m:=by unfold fN;rw [bI,List.length_range]
section
variable {H:HP}{si di bi mi fO lg:Nat}{aU aO:Int}{sync:Bool}{bl:List (Nat×List Op)}{a:AS}{ak:List bg}{es:List bo}{e:bo}
theorem F8 {n:Nat}(hL:H[lg]? =some (.list (es.map bo.sv++ [e.sv])))(tw:e.mem<=50){R:au}(h2:l[2]? =some (some (.ref lg))):
  bj P R (.bin .add (.bin .add (.bG .bytes (.cons (.list (.cons (.sub (.sub (.loc 2) (.neg (.int 1))) (.int 1)) .nil)) .nil)) (.bG .bytes (.cons (.bG .range (.cons (.int 1) (.cons (.bin .add (.sub (.sub (.loc 2) (.neg (.int 1))) (.int 1)) (.int 1)) .nil))) .nil))) (.bytes [0,0,0,0])) l H= .ok (.bytes (dC (fN e.mem))) (H++ [.list [.int e.mem]]):=by
 have g:Gr H (H++ [SO.list [.int e.mem]]):=⟨_,rfl⟩
 have hm:∀{H' :HP},Gr H H'->bj P R (.sub (.sub (.loc 2) (.neg (.int 1))) (.int 1)) l H' = .ok (.int e.mem) H' :=λg=>aN (aN (bc h2) rfl (en (g.at hL))) rfl rfl
 have hl:=t9 e.mem
 have ho:lG [(e.mem:Int)]=true:=j9 (fw _) (by exact iG ‹_› rfl)
 refine aJ (aJ (bq (aa (bE (aa (hm Gr.refl) af)) af) (cJ (dW ..) rfl ho)) (bq (aa (bq (aa rfl (aa (aJ (hm g) rfl rfl) af)) (jW (by decide) (by lia) (by lia))) af) (yF (by decide) (by lia) (sy _))) (hM (c:=jd (fN e.mem)) (by rw [hl];show 1+_<=4096;lia) (by unfold jd;rw [hl];rfl))) rfl (hM ?_ rfl)
 unfold jd
 rw [dq,hl]
 show _+4<=4096
 lia
end
section
variable {H:HP}{z:Wq}{a:AS}{es:List bo}{e:bo}{so:SO}
theorem Fa (hL:H[z.lg]? =some (.list (es.map bo.sv++ [e.sv])))(yL:a.idx=(es.length+1:Nat))(i1:a.idx<1000)(q7:a.term=e.term)(t0:0<=a.term)(t1:a.term<1000)(DI:a.aP.length<100)(h2:l[2]? =some (some (.ref z.lg)))(h9:l[9]? =some (some (.bytes a.aP)))(d:Nat){C:Prop}
  (K:∀H',bj P (run P (d+1)) (.tuple (.cons (.bytes [97]) (.cons (.bin .add (.bin .add (.bin .add (.fS 97 (.cons (.bG .len (.cons (.loc 2) .nil)) .nil)) (.fS 97 (.cons (.sub (.sub (.loc 2) (.neg (.int 1))) (.int 0)) .nil))) (.bG .bytes (.cons (.list (.cons (.bG .len (.cons (.loc 9) .nil)) .nil)) .nil))) (.loc 9)) .nil))) l H= .ok (pv ([97],fy a.idx a.term a.aP)) H'->Gr H H'->C):C:=by
 refine aZ (oi (n:=a.idx) (by lia) (by exact iB ‹_› rfl) d H) λH4 e4 g4=> ?_
 refine aZ (oi (n:=a.term) t0 (by exact iB ‹_› rfl) d H4) λH5 e5 g5=> ?_
 have b6:=cJ (H:=H5++ [SO.list [.int a.aP.length]]) (dW ..) (is:= [(a.aP.length:Int)]) rfl (j9 (fw _) (by exact iF ‹_› rfl))
 have v1:=jz a.idx
 have v2:=jz a.term
 have eA:=ca hL
 rw [aL,bI,show (([e.sv]:List SV).length)=1 from rfl,<-yL] at eA
 exact K _ (cX (aa rfl (aa (aJ (aJ (aJ (cz (aa (bq (aa (bc h2) af) eA) af) e4) (cz (aa (v:= .int a.term) (aN (aN (bc h2) rfl (en (g4.at hL))) rfl (o:= .ok (.int a.term) _) (by rw [q7];rfl)) af) e5) (hM (c:=vb a.idx++vb a.term) (by lia) rfl))
   (bq (aa (bE (aa (bq (aa (bc h9) af) qB) af)) af) b6) (hM (c:=vb a.idx++vb a.term++ [(a.aP.length:Int)]) (by rw [aL];show _+1<=4096;lia) rfl)) (bc h9) (hM (c:=fy a.idx a.term a.aP) (by rw [aL,aL];show _+1+_<=4096;lia) (by unfold fy;rw [bX,bX];rfl))) af))) ((g4.trans g5).trans ⟨_,rfl⟩)
theorem BL (hD:dU U2 so a.now)(zY:H[z.n+2]? =some so)(hL:H[z.lg]? =some (.list (es.map bo.sv++ [e.sv])))(yL:a.idx=(es.length+1:Nat))(i1:a.idx<1000)(q7:a.term=e.term)(t0:0<=a.term)(t1:a.term<1000)(DI:a.aP.length<100)(f:Nat->Option SV)(d:Nat){C:Prop}
  (K:∀H' p q r,Ke H H'->H.length<=p->H.length<=q->p≠q->H'[r]? =some (.list ((dQ a).map pv))->r<p->r<q->H'[p]? =some (.list [])->H'[q]? =some (.list ([pv ([97],fy a.idx a.term a.aP)]++((dQ a).filter λu8=>true).map (λr=>pv (100::r.1,r.2))))->
   (∀o,aK P (run P (d+1)) (bx 6 BU) (xo z (DH f a.aP r p q (f 14))) H' =o->aK P (run P (d+1)) (bx 2 BU) (al (xo z f) 9 (.bytes a.aP)) H=o)->C):C:=by
 have e1:=xk Pi (by decide) hD zY
 have g1:Gr H (H++ [SO.list ((U2.filter λk=>(a.now k).isSome).map .bytes)]):=⟨_,rfl⟩
 have sb:(H++ [SO.list ((U2.filter λk=>(a.now k).isSome).map .bytes)])[H.length]? =some (.list ((U2.filter λk=>(a.now k).isSome).map .bytes)):=dW ..
 have lU:(U2.filter λk=>(a.now k).isSome).length<=2:=List.length_filter_le _ _
 have c1:=pD (w:=1) (k:= .pair (.loc 1000) (.sub (.loc 6) (.loc 1000))) (t:=none) (v:= .ref H.length) (p:=λu8=>true) (enc:=SV.bytes) (f:=λk=>pv (k,(a.now k).getD [])) (l:=al (xo z f) 9 (.bytes a.aP)) (xs:=U2.filter λk=>(a.now k).isSome)
  (em sb) ((d0 sb).trans (bI _)) rfl (λk hk=>⟨[.bytes k],rfl,rfl,λu8=>by
   obtain ⟨v,hv⟩:=Option.isSome_iff_exists.mp (List.mem_filter.mp hk).2
   have h1:=yp (k:=k) (g1.at zY) hD hv
   show (rj (.ref (z.n+2)) (.bytes k) _).bind (λy=>some (SV.tuple [.bytes k,y]))=_
   unfold rj
   rw [h1,hv]
   rfl⟩) (by exact lA ‹_› rfl)
 rw [I0] at c1
 have e2:=Hh (R:=run P (d+1)) (i:=11) (it:= .bG .sorted (.cons (.loc 6) .nil)) (bq (aa rfl af) e1) c1
 have Zs:=g1.le
 generalize H++ [SO.list ((U2.filter λk=>(a.now k).isSome).map .bytes)]=H1 at*
 have hr:(H1++ [SO.list ((dQ a).map pv)])[H1.length]? =some (.list ((dQ a).map pv)):=dW ..
 have g2:Gr H1 (H1++ [SO.list ((dQ a).map pv)]):=⟨_,rfl⟩
 have Zn:(H1++ [SO.list ((dQ a).map pv)]).length=H1.length+1:=aL
 generalize H1.length=r at*
 generalize H1++ [SO.list ((dQ a).map pv)]=H2 at*
 have g3:Gr H2 (H2++ [SO.list []]):=⟨_,rfl⟩
 have hp:(H2++ [SO.list []])[H2.length]? =some (.list []):=dW ..
 have gL:=g3.at (g2.at (g1.at hL))
 refine Fa (z:=z) gL yL i1 q7 t0 t1 DI (l:=al (al (al (xo z f) 9 (.bytes a.aP)) 11 (.ref r)) 12 (.ref H2.length)) rfl rfl d λH6 e6 g6=> ?_
 have g7:Gr H6 (H6++ [SO.list [pv ([97],fy a.idx a.term a.aP)]]):=⟨_,rfl⟩
 have Xy:(H6++ [SO.list [pv ([97],fy a.idx a.term a.aP)]])[H6.length]? =some (.list [pv ([97],fy a.idx a.term a.aP)]):=dW ..
 have UD:=(g3.trans g6).trans g7
 have Sf:=UD.at hr
 have Yc:=(g6.trans g7).at hp
 have l7:=(g6.trans g7).le
 have l3:(H2++ [SO.list []]).length=H2.length+1:=aL
 have XL:=xu a
 have c8:=pD (w:=2) (k:= .pair (.bin .add (.bytes [100]) (.loc 1000)) (.loc 1001)) (t:=none) (v:= .ref r) (p:=λu8=>true) (enc:=pv) (f:=λr=>pv (100::r.1,r.2)) (l:=xo z (DH f a.aP r H2.length H6.length (f 14))) (xs:=dQ a)
  (em Sf) ((d0 Sf).trans (bI _)) rfl (λx hx=>⟨[.bytes x.1, .bytes x.2],rfl,rfl,λu8=>by
   rcases GH hx with h|h<;>(rw [h];rfl)⟩) (by exact lA ‹_› rfl)
 have e8:=IE (R:=run P (d+1)) (i:=13) (it:= .loc 11) (l:=xo z (DH f a.aP r H2.length H6.length (f 14))) rfl rfl c8 Xy (by
  rw [jU,bI]
  exact cy (Nat.add_le_add_left XL 1) (by decide))
 generalize Zg:H6++ [SO.list [pv ([97],fy a.idx a.term a.aP)]]=H7 at*
 have g8:Gr H7 ((H7++ [SO.list (((dQ a).filter λu8=>true).map λr=>pv (100::r.1,r.2))])++ [SO.list ([pv ([97],fy a.idx a.term a.aP)]++((dQ a).filter λu8=>true).map λr=>pv (100::r.1,r.2))]):=Gr.trans ⟨_,rfl⟩ ⟨_,rfl⟩
 have ql:(H7++ [SO.list (((dQ a).filter λu8=>true).map λr=>pv (100::r.1,r.2))]).length=H7.length+1:=aL
 exact K _ H2.length (H7.length+1) r (((g1.trans g2).trans UD).trans g8).ke (by lia) (by lia) (by lia) (g8.at Sf) (by lia) (by lia) (g8.at Yc) (by rw [<-ql];exact dW ..) λo ho=>
  ae e2 (ae (bJ (bE af)) (ae (bJ (Zg▸bE (aa e6 af))) (ae e8 ho)))
end
theorem wj (o:Option By)(H:HP):bV .ne (ob o) (ob o) H=some false:=by
 cases o with
 |none=>rfl
 |some b=>exact rR (v:= .bytes b) (λu8 z=>(nomatch z)) trivial
noncomputable def N3 (f:Nat->Option SV)(ky:Option SV):Nat->Option SV
 |10=>ky
 |k=>f k
section
variable {H H1:HP}{z:Wq}{di bi:Nat}{aU aW aO:Int}{sync:Bool}{bl:List (Nat×List Op)}{a:AS}{ak:List bg}{es:List bo}{e:bo}{so:SO}
theorem L3 {l:List (By×By)}:∀v∈l.map pv,Dp 6 v:=λv hv=>by
 refine aZ (gD hv) λx u8 de=> ?_;subst de
 exact O8 x
theorem Jn (hm:H[z.mi]? =some (aX z.si a.idx a.term a.aP aO sync))(cI:eQ H z.si di bi (fV a) bl aU aW)(hD:dU U2 so a.now)(zY:H[z.n+2]? =some so)(f:Nat->Option SV)(d:Nat){ky:By}(hl:ky.length<=10)(hk:fV a (100::ky)=a.now ky)(i:Option SV):aK P (run P (d+6)) (te (cL (bx 7 BU))) (al (xo z (N3 f i)) 10 (.bytes ky)) H= .next (xo z (N3 f (some (.bytes ky)))) H:=by
 refine aZ cI.dd λHv d1 d2=> ?_
 have e2:=QK (k:=ky) (cy hl (by decide)) hm cI.st d1 d2 (d+4)
 rw [hk] at e2
 exact ae (cF (an (aw (q:= .fn 78) (v:= .ref z.mi) (R:=run P (d+6)) rfl (bO hm) (aa rfl af) e2) (aw (R:=run P (d+6)) rfl (wD zY hD) (aa rfl af) (DQ zY hD)) (wj _ _)) aj) aj
theorem Dv {ef:List Int}{p q r:Nat}(hm:H1[z.mi]? =some (aX z.si a.idx a.term a.aP aO sync))(cI:eQ H1 z.si di bi (fV a) bl aU aW)(ha:nX a)(hD:dU U2 so a.now)(zY:H1[z.n+2]? =some so)(Ql:H1[z.n+1]? =some (.list (iL ef)))(vc:aW=ef.sum)
  (hL:H1[z.lg]? =some (.list (es.map bo.sv++ [e.sv]))) (yL:a.idx=(es.length+1:Nat)) (q7:a.term=e.term) (k:Ke H1 H) (hr:H[r]? =some (.list ((dQ a).map pv))) (hp:H[p]? =some (.list ((pp a).map pn))) (hq:H[q]? =some (.list (((U5.map (oq (fV a) none none)).flatten).map pv)))
  (f:Nat->Option SV) (i:Option SV) (d:Nat):∃H',aK P (run P (d+6)) (bx 7 BU) (xo z (DH f a.aP r p q i)) H= .ret (.bool true) H' :=by
 have sb:(H++ [SO.list [.bytes [], .bytes [107]]])[H.length]? =some (.list [.bytes [], .bytes [107]]):=dW ..
 have e1:=xi (d+5) H
 have g1:Gr H (H++ [SO.list [.bytes [], .bytes [107]]]):=⟨_,rfl⟩
 have k1:=k.trans g1.ke
 have hr:=g1.at hr
 have hp:=g1.at hp
 have hq:=g1.at hq
 have hN:fa (.ref H.length) (H++ [SO.list [.bytes [], .bytes [107]]])=2:=(d0 sb).trans rfl
 generalize H.length=m at*
 generalize H++ [SO.list [.bytes [], .bytes [107]]]=H2 at*
 have one:=λ{ky:By}=>Jn (k1 _ _ hm) (cI.ke k1) hD (k1 _ _ zY) (DH f a.aP r p q i) d (ky:=ky)
 refine aZ cI.dd λHv d1 d2=> ?_
 have e3:=yw (lo:=none) (hi:=none) (k1 _ _ cI.st) (k1 _ _ d1) d2 (d+5)
 rw [mK] at e3
 have g3:Gr H2 (H2++SO.list (((U5.map (oq (fV a) none none)).flatten).map pv)::SO.list ((U5.filter λk=>(fV a k).isSome).map .bytes):: []):=⟨_,rfl⟩
 have e4:=Hn (i:=H2.length) (j:=q) (H:=H2++SO.list (((U5.map (oq (fV a) none none)).flatten).map pv)::SO.list ((U5.filter λk=>(fV a k).isSome).map .bytes):: []) nE (g3.at hq) L3
 have k3:=k1.trans g3.ke
 have hr:=g3.at hr
 have hp:=g3.at hp
 generalize H2++SO.list (((U5.map (oq (fV a) none none)).flatten).map pv)::SO.list ((U5.filter λk=>(fV a k).isSome).map .bytes):: []=H3 at*
 refine aZ (PE (k3 _ _ hm) (cI.ke k3) ha d) λH4 e6 g4=> ?_
 have k4:=k3.trans g4.ke
 have eA:=ca (k4 _ _ hL)
 rw [aL,bI,show (([e.sv]:List SV).length)=1 from rfl,<-yL] at eA
 exact ⟨H4,ae (f_ (v:= .ref m) (cz af e1) (by
  rw [hN]
  exact fq (em sb 0) rfl (one (by decide) (vV a) (f 10)) (fq (em sb 1) rfl (one (by decide) (vU a) _) (ju (em sb 2)))))
  (ae (cF (fu (cZ (an (aw (q:= .fn 91) (v:= .ref z.si) (R:=run P (d+6)) rfl (bO (k1 _ _ cI.st)) (aa rfl (aa rfl (aa rfl af))) e3) rfl e4) (cZ (an (aE rfl (k3 _ _ cI.st) rfl) (bq (aa rfl af) (DZ (k3 _ _ Ql))) ((k8 _ _ _).trans (by rw [bf vc];rfl))) fb))) aj)
   (aY (bK (fU (aw (q:= .fn 83) (v:= .ref z.mi) (R:=run P (d+6)) rfl (bO (k3 _ _ hm)) af e6) (cX (aa (bq (aa rfl af) eA) (aa (v:= .int a.term) (aN (aN rfl rfl (en (k4 _ _ hL))) rfl (o:= .ok (.int a.term) _) (by rw [q7];rfl)) (aa rfl (aa (bq (aa rfl af) (fT (g4.at hr))) (aa (bq (aa rfl af) (fT (g4.at hp))) af)))))) (eq_self (λu8 z=>(nomatch z)) (LS a))))))⟩
theorem Ig:(zL a w).length<=1:=by unfold zL;split<;>exact Nat.le_of_ble_eq_true rfl
theorem Jj:(zu a w).length<=1:=by unfold zu;split<;>exact Nat.le_of_ble_eq_true rfl
theorem Hd {p q:Nat}(k:Ke H1 H)(np:H1.length<=p)(nq:H1.length<=q)(m:∀(i:Nat) (o:SO),i≠p->i≠q->H[i]? =some o->H'[i]? =some o):Ke H1 H' :=λi o e=>
 have h:=(gw e).1
 m i o (cW (Nat.lt_of_lt_of_le h np)) (cW (Nat.lt_of_lt_of_le h nq)) (k i o e)
theorem Rt {α:Type}{x:α}{l m:List α}(h:l.length<=2)(h2:m.length<=1):([x]++l++m).length<64:=by
 rw [aL,aL]
 show 1+l.length+m.length<64
 lia
theorem B8 {si mi lg fO:Nat}(hm:H[mi]? =some (aX si a.idx a.term a.aP aO sync))(cI:eQ H si di bi (fV a) bl aU aW)(ha:nX a)(hL:H[lg]? =some (.list ((es++ [e]).map bo.sv)))(hA:H[fO]? =some (.list (ak.map bg.sv)))(mq:lX ak)(hw:ol ak mP (es++ [e]))(hl:(es++ [e]).length<40)
  (zt:pM ak (cD ak mP (es++ [e])) a) (KC:ga ak (cD ak mP (es++ [e])) (es++ [e]).length) (tw:e.mem<=50) (yL:a.idx=(es.length+1:Nat)) (q7:a.term=e.term) (t0:0<=a.term) (t1:a.term<1000) (Qf:a.aP=dC (fN e.mem)) (vc:aW=(cD ak mP (es++ [e])).ef.sum) (d:Nat):
  ∃H',run P (d+7) 100 [.ref si, .ref mi, .ref lg, .ref fO] H= .ok (.bool true) H' :=by
 refine pt mq hA hL hw hl (d+4) λso H1 e1 g1 rd hD=> ?_
 have Km:∀b∈(cD ak mP (es++ [e])).told,b.length<=60:=λb hb=>cy (KC.tl b hb) (by lia)
 have Nh:=KC.dk
 generalize cD ak mP (es++ [e])=s at*
 rw [zt.now] at hD
 have a3:=g1.at hL
 rw [eJ] at a3
 have a1:=g1.at hm
 have a2:=cI.gr g1
 have a4:=g1.at hA
 generalize H.length=n at*
 have e2:=F8 (n:=0) (R:=run P (d+6)) (l:=xo ⟨si,mi,lg,fO,n⟩ λu8=>none) a3 tw rfl
 rw [<-Qf] at e2
 have g2:Gr H1 (H1++ [SO.list [.int e.mem]]):=⟨_,rfl⟩
 generalize H1++ [SO.list [.int e.mem]]=H2 at*
 refine BL (z:=⟨si,mi,lg,fO,n⟩) hD (g2.at rd.now) (g2.at a3) yL ha.i1 q7 t0 t1 ha.aP (λu8=>none) (d+5) λH3 p q r k3 np nq NX hr rp rq hp hq f3=> ?_
 have KB:=g2.le
 have np:=cy KB np
 have nq:=cy KB nq
 have lR:(((dQ a).filter λu8=>true).map (λr=>pv (100::r.1,r.2))).length<=2:=by
  rw [jU,bI]
  exact xu a
 have Vy:=g2.ke.trans k3
 refine u2 (z:=⟨si,mi,lg,fO,n⟩) (w:=false) (r:=r) a1 a2 ha mq zt Nh Km a4 rd Vy hp hq np nq NX (by decide) (fM (Nat.le_of_eq aL) (by show 1+_<64;lia)) (λu8=>none) a.aP d λf4 H4 e4 m4 p4 q4=> ?_
 have k4:=Hd Vy np nq m4
 refine u2 (z:=⟨si,mi,lg,fO,n⟩) (w:=true) (r:=r) a1 a2 ha mq zt Nh Km a4 rd k4 p4 q4 np nq NX (fM Ig (by decide)) (Rt lR Jj) f4 a.aP d λf5 H5 e5 m5 p5 q5=> ?_
 rw [J9] at p5
 rw [JX] at q5
 have WQ:=m5 _ _ (cW rp) (cW rq) (m4 _ _ (cW rp) (cW rq) hr)
 obtain ⟨H6,e6⟩:=Dv (z:=⟨si,mi,lg,fO,n⟩) a1 a2 ha hD rd.now rd.ef vc a3 yL q7 (Hd k4 np nq m5) WQ p5 q5 f5 (some (.int (wi true))) d
 exact ⟨H6,aF rfl rfl (ae (lu (cz (aa rfl (aa rfl af)) e1) rfl) (ae (bJ e2) (f3 _ (ae (f_ (v:= .range 0 2) (bq (aa rfl af) (ll (n:=2) (by decide))) (fq (oQ (n:=2) (k:=0) (by decide)) rfl e4 (fq (oQ (n:=2) (k:=1) (by decide)) rfl e5 (ju (qw (n:=2)))))) e6))))⟩
end
noncomputable def eh (ak:List bg)(a:AS):List bo->AS
 | []=>a
 |e::r=>eh ak (pI ak a e) r
noncomputable def jH (ak:List bg)(a:AS):List bo->List (List Op)
 | []=> []
 |e::r=>xS ak a e::jH ak (pI ak a e) r
noncomputable def nF (ak:List bg)(a:AS):List bo->List (Option By)
 | []=> []
 |e::r=>lW a (kF ak e.one)::nF ak (pI ak a e) r
theorem pN:∀{es:List bo} {a:AS},eh ak a (es++ [e])=pI ak (eh ak a es) e
 | [],_=>rfl
 |x::r,a=>pN (es:=r) (a:=pI ak a x)
theorem vn:∀{es:List bo} {a:AS},jH ak a (es++ [e])=jH ak a es++ [xS ak (eh ak a es) e]
 | [],_=>rfl
 |x::r,a=>congrArg (xS ak a x:: ·) (vn (es:=r) (a:=pI ak a x))
theorem zy:∀{es:List bo} {a:AS},nF ak a (es++ [e])=nF ak a es++ [lW (eh ak a es) (kF ak e.one)]
 | [],_=>rfl
 |x::r,a=>congrArg (lW a (kF ak x.one):: ·) (zy (es:=r) (a:=pI ak a x))
theorem oa:∀{es:List bo} {s:RS},cD ak s (es++ [e])=du ak (cD ak s es) e.one
 | [],_=>rfl
 |x::r,s=>oa (es:=r) (s:=du ak s x.one)
theorem qg:∀{es:List bo} {s:RS},ol ak s es->qQ ak (cD ak s es) e.one->ol ak s (es++ [e])
 | [],_,_,h=>⟨h,trivial⟩
 |x::r,s,h,h2=>⟨h.1,qg (es:=r) h.2 h2⟩
theorem vq:∀{es:List bo} {a:AS} (j:Nat),(jH ak a es).take j=jH ak a (es.take j)
 | [],_,j=>by rw [List.take_nil];exact List.take_nil
 |_::_,_,0=>rfl
 |x::r,a,j+1=>congrArg (xS ak a x:: ·) (vq (es:=r) (a:=pI ak a x) j)
theorem tU:∀{es:List bo} {a:AS},(jH ak a es).length=es.length
 | [],_=>rfl
 |x::r,a=>congrArg (·+1) (tU (es:=r) (a:=pI ak a x))
theorem C4:∀{es:List bo} {a:AS},(nF ak a es).length=es.length
 | [],_=>rfl
 |x::r,a=>congrArg (·+1) (C4 (es:=r) (a:=pI ak a x))
theorem u6:∀{es:List bo} {a:AS} {j:Nat},es[j]? =some e->(nF ak a es)[j]? =some (lW (eh ak a (es.take j)) (kF ak e.one))
 | [],_,_,h=>nomatch h
 |x::r,a,0,h=>by cases h;rfl
 |x::r,a,j+1,h=>u6 (es:=r) (a:=pI ak a x) (j:=j) h
theorem tB {ak:List bg}:∀{es:List bo} {a:AS},(eh ak a es).idx=a.idx+(es.length:Nat)
 | [],a=>(Int.add_zero _).symm
 |x::r,a=>by
  have:=tB (ak:=ak) (es:=r) (a:=pI ak a x)
  refine this.trans ?_
  show a.idx+1+(r.length:Int)=a.idx+((r.length+1:Nat):Int)
  lia
theorem Bh (hu:y8 ak)(mq:lX ak):∀{es:List bo} {s:RS} {a:AS},pM ak s a->ol ak s es->pM ak (cD ak s es) (eh ak a es)/\(cD ak s es).fB=s.fB++nF ak a es/\(cD ak s es).ef=s.ef++(jH ak a es).map λo=>(o.length:Int)
 | [],s,a,h,_=>⟨h,(ch _).symm,(ch _).symm⟩
 |e::r,s,a,h,hw=>by
  refine rm (xK h hu mq hw.1) λh1 h2 h3=> ?_
  refine rm (Bh hu mq (es:=r) h1 hw.2) λg1 g2 g3=> ?_
  refine ⟨g1,g2.trans ?_,g3.trans ?_⟩
  ·rw [h2,bX];rfl
  ·rw [h3,bX];rfl
theorem vd (mq:lX ak):∀{es:List bo} {s:RS} {n:Nat},ga ak s n->ol ak s es->ga ak (cD ak s es) (n+es.length)
 | [],_,_,h,_=>h
 |e::r,s,n,h,hw=>by
  have:=vd mq (es:=r) (DY h mq hw.1) hw.2
  rw [dq,show n+(r.length+1)=n+1+r.length by lia]
  exact this
noncomputable def DW:List (List Op)->(By->Option By)->By->Option By
 | [],D=>D
 |o::r,D=>DW r (eU o D)
theorem AK:∀(bl:List (Nat×List Op)) (D:By->Option By),pS bl D=DW (bl.map (·.2)) D
 | [],_=>rfl
 |p::r,D=>AK r (eU p.2 D)
noncomputable def EW (ak:List bg)(es:List bo):Prop:=∀e∈es,∃kind data,gb kind data (kF ak e.one)
theorem y7:∀{es:List bo} {a:AS},EW ak es->DW (jH ak a es) (fV a)=fV (eh ak a es)
 | [],_,_=>rfl
 |e::r,a,h=>by
  refine zx (h e (.head _)) λk d hw=> ?_
  show DW (jH ak (pI ak a e) r) (eU (xS ak a e) (fV a))=_
  have:eU (xS ak a e) (fV a)=fV (pI ak a e):=BA a (a.idx+1) e.term (dC (fN e.mem)) hw
  rw [this]
  exact y7 (es:=r) λx hx=>h x (.tail _ hx)
section
variable {ak:List bg}{x:bg}
theorem xm (h:∀k,one=some k->k<ak.length):kF (ak++ [x]) one=kF ak one:=by
 cases one with
 |none=>rfl
 |some k=>
  show rD.cmd _ _=rD.cmd _ _
  rw [fW (h k rfl)]
theorem Ed (h:∀k∈done,k<ak.length):ik (ak++ [x]) done=ik ak done:=by
 unfold ik
 cases q:done.getLast? with
 |none=>rfl
 |some k=>
  dsimp only
  rw [fW (h k (j8 q))]
theorem zh {n:Nat}(hs:ga ak s n)(h:∀k,one=some k->k<ak.length):du (ak++ [x]) s one=du ak s one:=by
 cases one with
 |none=>rfl
 |some k=>
  unfold du
  dsimp only
  rw [fW (h k rfl),Ed (hs.dk _)]
theorem Hi (mq:lX ak):∀{es:List bo} {s:RS} {n:Nat},ga ak s n->ol ak s es->cD (ak++ [x]) s es=cD ak s es/\ol (ak++ [x]) s es
 | [],_,_,_,_=>⟨rfl,trivial⟩
 |e::r,s,n,hs,hw=>by
  have h1:du (ak++ [x]) s e.one=du ak s e.one:=zh hs λk hk=>(hw.1 k hk).1
  obtain ⟨g1,g2⟩:=Hi mq (es:=r) (DY hs mq hw.1) hw.2
  refine ⟨?_,λk hk=>⟨by rw [aL];exact Nat.lt_succ_of_lt (hw.1 k hk).1,(hw.1 k hk).2⟩, ?_⟩
  ·show cD (ak++ [x]) (du (ak++ [x]) s e.one) r=_
   rw [h1];exact g1
  ·show ol (ak++ [x]) (du (ak++ [x]) s e.one) r
   rw [h1];exact g2
theorem Jt:∀{s:RS},ol ak s es->∀e∈es,∀k,e.one=some k->k<ak.length:=by
 induction es with
 |nil=>exact λu8 u8 h=>jZ h
 |cons x r ih=>
  intro s h e he k hk
  rcases cH he with rfl|he
  ·exact (h.1 k hk).1
  ·exact ih h.2 e he k hk
theorem BH:∀{es:List bo} {a:AS},(∀e∈es,∀k,e.one=some k->k<ak.length)->eh (ak++ [x]) a es=eh ak a es/\jH (ak++ [x]) a es=jH ak a es
 | [],_,_=>⟨rfl,rfl⟩
 |e::r,a,h=>by
  have h1:kF (ak++ [x]) e.one=kF ak e.one:=xm (h e (.head _))
  obtain ⟨g1,g2⟩:=BH (es:=r) (a:=pI ak a e) λy hy=>h y (.tail _ hy)
  have h2:pI (ak++ [x]) a e=pI ak a e:=by unfold pI;rw [h1]
  have h3:xS (ak++ [x]) a e=xS ak a e:=by unfold xS;rw [h1]
  refine ⟨?_, ?_⟩
  ·show eh (ak++ [x]) (pI (ak++ [x]) a e) r=_
   rw [h2];exact g1
  ·show xS (ak++ [x]) a e::jH (ak++ [x]) (pI (ak++ [x]) a e) r=_
   rw [h2,h3,g2];rfl
theorem OM {n:Nat}(hs:ga ak s n):ga (ak++ [x]) s n:=
 ⟨hs.r,hs.c,hs.t,hs.st,hs.d,λw k h=>by rw [aL];exact Nat.lt_succ_of_lt (hs.dk w k h),hs.nw,hs.tl⟩
theorem tI {k:Nat}(h:k<(ak++ [x]).length):(k<ak.length/\(ak++ [x]).getD k dA=ak.getD k dA)∨(k=ak.length/\(ak++ [x]).getD k dA=x):=by
 rw [aL] at h
 by_cases q:k<ak.length
 ·exact .inl ⟨q,fW q⟩
 ·have:k=ak.length:=by
   have:k<ak.length+1:=h
   lia
  subst this
  exact .inr ⟨rfl,mE⟩
theorem Gh (mq:lX ak)(hx:x.c.Ok/\x.c.kind<=6/\(x.c.key= []∨x.c.key= [107])/\x.c.value.length=1/\x.c.d9=cl x.dF):lX (ak++ [x]):=⟨λa ha=>by
 rcases gi ha with ha|ha
 ·exact mq.ok a ha
 ·rw [eF ha];exact hx⟩
theorem Ga (hu:y8 ak)(hx:∀i,i<ak.length->(ak.getD i dA).dF=x.dF->(ak.getD i dA).c.number<x.c.number):y8 (ak++ [x]):=⟨λi j Sj hj hw=>by
 rw [fW (by rw [aL] at hj;have:j<ak.length+1:=hj;lia:i<ak.length)] at hw⊢
 rcases tI hj with ⟨h1,h2⟩|⟨h1,h2⟩
 ·rw [h2] at hw⊢
  exact hu.up i j Sj h1 hw
 ·rw [h2] at hw⊢
  exact hx i (by lia) hw⟩
end
noncomputable def fK (m:Nat):List bo->Nat
 | []=>m
 |e::r=>fK e.mem r
noncomputable def eI (t:Int):List bo->Int
 | []=>t
 |e::r=>eI e.term r
theorem n6:∀{es:List bo} {m:Nat},fK m (es++ [e])=e.mem
 | [],_=>rfl
 |x::r,_=>n6 (es:=r)
theorem oB:∀{es:List bo} {t:Int},eI t (es++ [e])=e.term
 | [],_=>rfl
 |x::r,_=>oB (es:=r)
theorem jk:∀{es:List bo} {a:AS} {m:Nat},a.aP=dC (fN m)->(eh ak a es).aP=dC (fN (fK m es))
 | [],_,_,h=>h
 |e::r,a,m,_=>jk (es:=r) (a:=pI ak a e) rfl
theorem mJ {ak:List bg}:∀{es:List bo} {a:AS},(eh ak a es).term=eI a.term es
 | [],_=>rfl
 |e::r,a=>mJ (es:=r) (a:=pI ak a e)
structure jL (H:HP)(ak:List bg)(idx:Int)(pm:Nat)(e:bo):Prop where
 ex:∃er kind data cm,e.er= .ref er/\H[er]? =some (lm e.term idx kind data)/\gb kind data (kF ak e.one)/\nV H e.cr cm/\(cm=none/\e.mem=pm∨cm=some (fN e.mem))
 t0:0<=e.term
 t1:e.term<1000
 m1:e.mem<=40
noncomputable def gc (H:HP)(ak:List bg):Nat->Nat->List bo->Prop
 |_,_, []=>True
 |i,pm,e::r=>jL H ak ((i:Int)+1) pm e/\gc H ak (i+1) e.mem r
theorem uV:∀{es:List bo} {i pm:Nat},gc H ak i pm es->jL H ak (((i+es.length:Nat):Int)+1) (fK pm es) e->gc H ak i pm (es++ [e])
 | [],_,_,_,h=>⟨h,trivial⟩
 |x::r,i,pm,h,h2=>⟨h.1,uV (es:=r) h.2 (by rw [show i+1+r.length=i+(x::r).length by rw [dq];lia];exact h2)⟩
theorem xV:∀{es:List bo} {i pm j:Nat},gc H ak i pm es->es[j]? =some e->jL H ak (((i+j:Nat):Int)+1) (fK pm (es.take j)) e
 | [],_,_,_,_,h=>nomatch h
 |x::r,i,pm,0,h,h2=>by cases h2;exact h.1
 |x::r,i,pm,j+1,h,h2=>by
  have:=xV (es:=r) (j:=j) h.2 h2
  rw [show i+1+j=i+(j+1) by lia] at this
  exact this
noncomputable def q9 (o:SO):Prop:=∀t r,o= .list (.tuple t::r)->t.length<5
noncomputable def Kl (H H' :HP):Prop:=∀(j:Nat) (o:SO),q9 o->H[j]? =some o->H'[j]? =some o
noncomputable def RQ (H H' :HP):Prop:=∀(j:Nat) (o:SO),q9 o->o≠ .list []->H[j]? =some o->H'[j]? =some o
theorem Kl.QN (h:Kl H H'):RQ H H' :=λj o a u8 e=>h j o a e
theorem Kl.trans {H H1 H2:HP}(a:Kl H H1)(b:Kl H1 H2):Kl H H2:=λj o n e=>b j o n (a j o n e)
theorem Ke.kl (h:Ke H H'):Kl H H' :=λj o u8 e=>h j o e
theorem Gq {j:Nat}(h:H[j]? =some (.list (.tuple t::r)))(ht:5<=t.length):Kl H (H.set j o):=λi x n e=>bP (λq=>by
 rw [q,h] at e
 cases e
 exact absurd (n t r rfl) (by lia)) e
theorem jq {c:Nat}:q9 (.inst c fs):=λu8 u8 h=>nomatch h
theorem mu:q9 (.list (iL xs)):=λt r h=>by cases xs<;>cases h
theorem Da {ops:List Op}:q9 (.list (ops.map Op.sv)):=λt r h=>by
 cases ops with
 |nil=>cases h
 |cons o q=>cases o<;>(cases h;exact (by decide:3<5))
theorem Ai {bl:List (Nat×List Op)}:q9 (.list (bl.map λp=> .ref p.1)):=λt r h=>by cases bl<;>cases h
theorem tf (h:dU U so D):q9 so/\so≠ .list []:=by
 obtain ⟨es,e|⟨e,_⟩,_⟩:=h.ex<;>(subst e;exact ⟨λu8 u8 z=>(nomatch z),λz=>(nomatch z)⟩)
theorem d8.kl {k:Nat}(h:d8 H k xs)(g:Kl H H'):d8 H' k xs:=by
 refine Bg h.ex λv a b c h1 h2 h3 h4 h5=> ?_
 exact ⟨v,a,b,c,g _ _ jq h1,g _ _ mu h2,g _ _ mu h3,g _ _ mu h4,g _ _ mu h5⟩
theorem nV.kl (h:nV H v m)(g:Kl H H'):nV H' v m:=by
 cases h with
 |no=>exact .no
 |yes r xs h hx hl=>exact .yes r xs (h.kl g) hx hl
theorem jL.kl {idx:Int}{pm:Nat}(h:jL H ak idx pm e)(g:Kl H H'):jL H' ak idx pm e:=by
 refine Bg h.ex λer k d cm h1 h2 h3 h4 h5=> ?_
 exact ⟨⟨er,k,d,cm,h1,g _ _ jq h2,h3,h4.kl g,h5⟩,h.t0,h.t1,h.m1⟩
theorem jL.kp {idx:Int}{pm:Nat}(h:jL H ak idx pm e)(g:Kp H H'):jL H' ak idx pm e:=by
 refine Bg h.ex λer k d cm h1 h2 h3 h4 h5=> ?_
 exact ⟨⟨er,k,d,cm,h1,g _ _ h2 ⟨by decide,by decide⟩,h3,h4.kp g,h5⟩,h.t0,h.t1,h.m1⟩
theorem jL.ask {x:bg}{idx:Int}{pm:Nat}(h:jL H ak idx pm e)(ho:∀k,e.one=some k->k<ak.length):jL H (ak++ [x]) idx pm e:=by
 refine Bg h.ex λer k d cm h1 h2 h3 h4 h5=> ?_
 exact ⟨⟨er,k,d,cm,h1,h2,(xm ho).symm▸h3,h4,h5⟩,h.t0,h.t1,h.m1⟩
theorem gc.kl (g:Kl H H'):∀{es:List bo} {i pm:Nat},gc H ak i pm es->gc H' ak i pm es
 | [],_,_,_=>trivial
 |_::r,_,_,h=>⟨h.1.kl g,gc.kl g (es:=r) h.2⟩
theorem gc.kp (g:Kp H H'):∀{es:List bo} {i pm:Nat},gc H ak i pm es->gc H' ak i pm es
 | [],_,_,_=>trivial
 |_::r,_,_,h=>⟨h.1.kp g,gc.kp g (es:=r) h.2⟩
theorem gc.ask {x:bg}:∀{es:List bo} {i pm:Nat},gc H ak i pm es->(∀e∈es,∀k,e.one=some k->k<ak.length)->gc H (ak++ [x]) i pm es
 | [],_,_,_,_=>trivial
 |_::r,_,_,h,ho=>⟨h.1.ask (ho _ (.head _)),gc.ask (es:=r) h.2 λy hy=>ho y (.tail _ hy)⟩
theorem gc.ew:∀{i pm:Nat},gc H ak i pm es->EW ak es:=by
 induction es with
 |nil=>exact λu8 u8 he=>jZ he
 |cons y r ih=>
  intro i pm h x hx
  rcases cH hx with rfl|hx
  ·exact Bg h.1.ex λer k d cm h1 h2 h3 h4 h5=>⟨k,d,h3⟩
  ·exact ih h.2 x hx
noncomputable def e0:bo:=⟨1,1, .none,none, .none⟩
noncomputable def a0:AS:=QS (dC (fN 1))
noncomputable def v0:List Op:= [Op.put [97] (fy 1 1 (dC (fN 1)))]
structure Mc where
 mi:Nat
 si:Nat
 di:Nat
 bi:Nat
structure MS (H:HP)(m:Mc)(sync:Bool)(ak:List bg)(es:List bo)(HK aU:Int)(bl:List (Nat×List Op)):Prop where
 hm:H[m.mi]? =some (aX m.si (eh ak a0 es).idx (eh ak a0 es).term (eh ak a0 es).aP HK sync)
 cI:eQ H m.si m.di m.bi (fV (eh ak a0 es)) bl aU (fH bl)
 PQ:bl.map (·.2)=v0::jH ak a0 es
section
variable {H H' :HP}{m:Mc}{ak:List bg}{es:List bo}{e:bo}{HK aU:Int}{sync:Bool}{bl:List (Nat×List Op)}{pm:Nat}
theorem MS.len (q:MS H m sync ak es HK aU bl):bl.length=es.length+1:=by
 have:=congrArg List.length q.PQ
 rw [bI,dq,tU] at this
 exact this
theorem MS.ne (q:MS H m sync ak es HK aU bl):bl≠ []:=λz=>by
 have:=q.len
 rw [z] at this
 exact OE this
theorem L4:xS ak a e≠ []:=λh=>by
 unfold xS md zj at h
 exact absurd (congrArg List.length h) (by rw [aL];show ¬(_+1=0);lia)
theorem JH:∀{a:AS},∀o∈jH ak a es,o≠ []:=by
 induction es with
 |nil=>exact λu8 h=>jZ h
 |cons x r ih=>exact λo h=>(cH h).elim (λe=>e▸L4) (ih o)
theorem MS.tr (q:MS H m sync ak es HK aU bl)(g:RQ H H'):MS H' m sync ak es HK aU bl:=by
 obtain ⟨h1,⟨s1,⟨so,d1,d2⟩,b1,o1⟩,h3⟩:=q
 have lF:∀p∈bl,p.2≠ []:=λp hp=>by
  have:p.2∈v0::jH ak a0 es:=h3▸hZ hp
  rcases cH this with q|q
  ·rw [q];exact λz=>nomatch z
  ·exact JH _ q
 have hb:bl≠ []:=λq=>by rw [q] at h3;cases h3
 exact ⟨g _ _ jq (λz=>nomatch z) h1,⟨g _ _ jq (λz=>nomatch z) s1,⟨so,g _ _ (tf d2).1 (tf d2).2 d1,d2⟩,g _ _ Ai (λz=>by
  cases bl with
  |nil=>exact hb rfl
  |cons _ _=>cases z) b1,λp hp=>⟨g _ _ Da (λz=>by
   cases q:p.2 with
   |nil=>exact lF p hp q
   |cons _ _=>rw [q] at z;cases z) (o1 p hp).1,(o1 p hp).2⟩⟩,h3⟩
theorem MS.ask {x:bg}(q:MS H m sync ak es HK aU bl)(ho:∀e∈es,∀k,e.one=some k->k<ak.length):MS H m sync (ak++ [x]) es HK aU bl:=by
 obtain ⟨h1,h2⟩:=BH (x:=x) (a:=a0) ho
 obtain ⟨a,b,c⟩:=q
 exact ⟨by rw [h1];exact a,by rw [h1];exact b,by rw [h2];exact c⟩
theorem LM {n:Nat}(hs:pM ak s a)(hr:ga ak s n)(mq:lX ak)(hn:n<=40)(hc:a.aP.length<100)(i0:0<=a.idx)(i1:a.idx<1000):nX a:=by
 refine ⟨hc,λw=>⟨λq hq=> ?_⟩,λk b h=> ?_,i0,i1⟩
 ·rw [hs.S] at hq
  unfold jA at hq
  cases z:(s.done w).getLast? with
  |none=>rw [z] at hq;exact mZ hq
  |some k=>
   rw [z] at hq
   cases hq
   have hk:=hr.dk w k (j8 z)
   have hb:=(mq.ok _ (jP hk)).1
   have ht:=(hs.dw w k (j8 z)).1
   refine ⟨hb.n0,hb.n1, ?_⟩
   show (s.told.getD k []).length<128
   rw [List.getD_eq_getElem?_getD,eW ht]
   have:=hr.tl _ (List.getElem_mem ht)
   show (s.told[k]).length<128
   lia
 ·rw [<-hs.now] at h
  have:=hr.nw k b h
  lia
theorem Dm (m:Nat)(h:m<=40):(dC (fN m)).length<100:=by
 unfold dC jd
 rw [aL,dq,t9]
 show _+4<100
 lia
theorem AM (q:MS H m sync ak es HK aU bl)(he:jL H ak ((es.length:Int)+2) pm e)(YD:(eh ak a0 es).aP=dC (fN pm))(ha:nX (eh ak a0 es))(hl:es.length<100)(d:Nat){C:Prop}
  (K:∀H' er r,e.er= .ref er->run P (d+7) 74 [.ref m.mi, .ref er,e.cr] H= .ok (ob (lW (eh ak a0 es) (kF ak e.one))) H'->MS H' m sync ak (es++ [e]) (bif sync then (es.length:Int)+2 else HK) (bif sync then (es.length:Int)+2 else aU) (bl++ [(r,xS ak (eh ak a0 es) e)])->Kp H H'->C):C:=by
 refine Bg he.ex λer kind data cm h1 h2 h3 h4 h5=> ?_
 have hi:(eh ak a0 es).idx+1=(es.length:Int)+2:=by
  rw [tB]
  show (1:Int)+(es.length:Int)+1=_
  lia
 have UR:wT (eh ak a0 es).aP cm=dC (fN e.mem):=by
  rcases h5 with ⟨h,h'⟩|h
  ·rw [h,h',<-YD];rfl
  ·rw [h];rfl
 have xY:=q.len
 refine LE q.hm q.cI q.ne (by lia) (hi▸h2) h3 h4 ha he.t0 he.t1 d λH1 r e1 m1 s1 k1=>K H1 er r h1 e1 ⟨?_, ?_, ?_⟩ k1
 ·rw [pN,<-hi]
  rw [UR] at m1
  exact m1
 ·have hk:(bif sync then ((bl.length+1:Nat):Int) else aU)=bif sync then (es.length:Int)+2 else aU:=congrArg (cond sync · aU) (by rw [xY];rfl)
  rw [UR,hk] at s1
  rw [pN,k9]
  exact s1
 ·rw [eJ,q.PQ,vn];rfl
end
noncomputable def yJ:cA:=te (cL (bx 12 uC))
noncomputable def FU:SS:=cL (bx 7 yJ)
noncomputable def IR:cA:=nj FU
theorem De {α:Type}{l:List α}{j:Nat}{e:α}(h:l[j]? =some e):l.take (j+1)=l.take j++ [e]:=by
 rw [List.take_add_one,h];rfl
theorem v5:∀{es:List bo} {x e:bo} {j:Nat},(x::es)[j]? =some e->fK x.mem (es.take j)=e.mem/\eI x.term (es.take j)=e.term
 |es,x,e,0,h=>by cases h;exact ⟨rfl,rfl⟩
 | [],x,e,j+1,h=>nomatch h
 |y::r,x,e,j+1,h=>v5 (es:=r) (x:=y) (j:=j) h
theorem FQ {es:List bo}{j:Nat}(h:es[j]? =some e):(es.map bo.sv)[j]? =some e.sv:=by rw [hV,h];rfl
theorem qv {α:Type}{f:α->SV}(h:∀x,KU (f x)){l:List α}:nu (.list (l.map f)):=λu8 hv=>let ⟨x,_,e⟩:=gD hv;e▸h x
theorem mH {es:List bo}:nu (.list (es.map bo.sv)):=qv (f:=bo.sv) λu8=>True.intro
theorem tZ {ak:List bg}:nu (.list (ak.map bg.sv)):=qv (f:=bg.sv) λu8=>True.intro
theorem sC {rs:List (Option By)}:nu (.list (rs.map ob)):=qv λx=>by cases x<;>exact True.intro
theorem D0 {lo hi:Int}{k:Nat}(h:lo+(k:Int)<hi):cu (.range lo hi) k H=some (some (.int (lo+k))):=congrArg some (if_pos h)
theorem Gu {lo hi:Int}{k:Nat}(h:¬lo+(k:Int)<hi):cu (.range lo hi) k H=some none:=congrArg some (if_neg h)
theorem CG {x:Int}:(bif b then x else x)=x:=by cases b<;>rfl
theorem Dc {x y z:Int}:(bif b then x else bif b then y else z)=bif b then x else z:=by cases b<;>rfl
section
variable {m:Mc}{lg fO:Nat}{ak:List bg}{es:List bo}{sync:Bool}
theorem zG {rp k:Nat}{s:Int}(WF:∀j,nX (eh ak a0 (es.take j)))(eA:es.length<40)(d:Nat){L:Option SV->cR}(h5:∀v,(L v)[5]? =some (some (.ref m.mi)))(h6:∀v,(L v)[6]? =some (some (.ref lg)))
  (MA:∀v,(L (some v))[14]? =some (some v)) (YP:∀v,(L v)[22]? =some (some (.ref rp))) (hs:∀v w,al (L v) 14 w=L (some w)) {C:Prop} (n:Nat):
  ∀(i:Nat) (H:HP) (bl:List (Nat×List Op)) (y:Option SV),k+i+n=es.length->MS H m sync ak (es.take (k+i)) (bif sync then ((k+i+1:Nat):Int) else s) (bif sync then ((k+i+1:Nat):Int) else s) bl->gc H ak 1 1 es->
   H[lg]? =some (.list ((e0::es).map bo.sv))->H[rp]? =some (.list (([none]++nF ak a0 es).map ob))->
   (K:∀H' vH z,forLoop [14] (λl H=>aK P (run P (d+7)) (te (cL (bx 10 IR))) l H) (.range ((k+1:Nat):Int) ((es.length+1:Nat):Int)) (n+1) i (L y) H= .next (L z) H'->
    MS H' m sync ak es (bif sync then ((es.length+1:Nat):Int) else s) (bif sync then ((es.length+1:Nat):Int) else s) vH->Kp H H'->C)->C:=by
 induction n with
 |zero=>
  intro i H bl y hn hm hE hL hR K
  have hn:k+i=es.length:=hn
  rw [hn,List.take_length] at hm
  exact K H bl y (ju (Gu (by lia))) hm λu8 u8 e u8=>e
 |succ n ih=>
  intro i H bl y hn hm hE hL hR K
  have lN:k+i<es.length:=by lia
  have he:=eW lN
  generalize es[k+i]=e at he
  have Km:(es.take (k+i)).length=k+i:=List.length_take_of_le (Nat.le_of_lt lN)
  have Hw:=xV hE he
  rw [show (((1+(k+i):Nat):Int)+1)=(((es.take (k+i)).length:Nat):Int)+2 by rw [Km];lia] at Hw
  refine AM hm Hw (jk (m:=1) rfl) (WF _) (by rw [Km];exact dR lN (dR eA (by decide))) d λH1 er r h1 e1 m1 k1=> ?_
  rw [<-De he,Km,Dc] at m1
  have ci:((k+1:Nat):Int)+(i:Nat)=((k+i+1:Nat):Int):=by lia
  have lk:dH (.ref lg) (.int (((k+1:Nat):Int)+(i:Nat))) H= .ok e.sv H:=ci▸gz hL (FQ (es:=e0::es) he)
  have rk:dH (.ref rp) (.int (((k+1:Nat):Int)+(i:Nat))) H1= .ok (ob (lW (eh ak a0 (es.take (k+i))) (kF ak e.one))) H1:=ci▸gz (k1 _ _ hR sC) (by
   show ((nF ak a0 es).map ob)[k+i]? =_
   rw [hV,u6 he];rfl)
  exact ih (i+1) H1 _ (some (.int (((k+1:Nat):Int)+(i:Nat)))) (by lia) m1 (hE.kp k1) (k1 _ _ hL mH) (k1 _ _ hR sC) λH2 O2 z c1 c2 c3=>
   K H2 O2 z (fq (D0 (by lia)) (congrArg some (hs _ _)) (ae (cF (an (aw (q:= .fn 74) (v:= .ref m.mi) (R:=run P (d+7)) (bc (h5 _)) (bO hm.hm) (aa (v:= .ref er) (aN (aN (bc (h6 _)) (bc (MA _)) lk) rfl (o:= .ok (.ref er) _) (by rw [<-h1];rfl)) (aa (v:=e.cr) (aN (aN (bc (h6 _)) (bc (MA _)) lk) rfl (o:= .ok e.cr _) rfl) af)) e1)
    (aN (bc (YP _)) (bc (MA _)) rk) (wj _ _)) aj) aj) c1) c2 (k1.trans c3)
end
structure Wd where
 nm:Nat
 lg:Nat
 fO:Nat
 ns:List Int
 sync:Bool
structure iT (H:HP)(w:Wd)(m:Mc)(ak:List bg)(es:List bo)(a7:Nat)(bl:List (Nat×List Op))(tc:Nat):Prop where
 hn:H[w.nm]? =some (.list (iL w.ns))
 n0:w.ns.length≠0
 n1:w.ns.length<1000
 hL:H[w.lg]? =some (.list ((e0::es).map bo.sv))
 hA:H[w.fO]? =some (.list (ak.map bg.sv))
 ms:MS H m w.sync ak es a7 a7 bl
 hE:gc H ak 1 1 es
 ok:lX ak
 up:y8 ak
 wf:ol ak mP (e0::es)
 told:(cD ak mP (e0::es)).told.length=tc
 num:∀a∈ak,a.c.number<=126+2*(ak.length:Int)
 len:es.length<=20
 HF:tc<=es.length
 s1:1<=a7
 s2:a7<=es.length+1
 s3:w.sync=true->a7=es.length+1
 t0:0<=eI 1 es
 t1:eI 1 es<=1+es.length
 m1:1<=fK 1 es
 m3:fK 1 es<=3
 ne:ak= []->es= []
theorem qC:∀{es:List bo} {s:RS} (j:Nat),ol ak s es->ol ak s (es.take j)
 | [],_,_,_=>by rw [List.take_nil];trivial
 |_::_,_,0,_=>trivial
 |_::r,_,j+1,h=>⟨h.1,qC (es:=r) j h.2⟩
noncomputable def U8:RS:=⟨[none], [1],λu8=>none,λu8=> [], [], []⟩
theorem Io:pM ak U8 a0:=⟨rfl,λu8=>rfl,λu8 u8 h=>(jZ h),λu8 h=>absurd h (Nat.not_lt_zero _),rfl⟩
theorem LA:ga ak U8 1:=⟨bS _,bS _,Nat.zero_le _,rfl,λu8=>Nat.zero_le _,λu8 u8 h=>(jZ h),λu8 u8 h=>(nomatch h),λu8 h=>(jZ h)⟩
section
variable {H:HP}{w:Wd}{m:Mc}{ak:List bg}{es:List bo}{a7:Nat}{bl:List (Nat×List Op)}{tc:Nat}
theorem iT.sim (v:iT H w m ak es a7 bl tc)(j:Nat):pM ak (cD ak mP (e0::es.take j)) (eh ak a0 (es.take j))/\(cD ak mP (e0::es.take j)).fB= [none]++nF ak a0 (es.take j)/\(cD ak mP (e0::es.take j)).ef= [1]++(jH ak a0 (es.take j)).map λo=>(o.length:Int):=
 Bh (es:=es.take j) v.up v.ok Io (qC j v.wf.2)
theorem iT.rs (v:iT H w m ak es a7 bl tc)(j:Nat):ga ak (cD ak mP (e0::es.take j)) (1+(es.take j).length):=vd (es:=es.take j) v.ok LA (qC j v.wf.2)
theorem sr {α:Type}{l:List α}:l.take l.length=l:=List.take_length
theorem iT.LR (v:iT H w m ak es a7 bl tc):pM ak (cD ak mP (e0::es)) (eh ak a0 es)/\(cD ak mP (e0::es)).fB= [none]++nF ak a0 es/\(cD ak mP (e0::es)).ef= [1]++(jH ak a0 es).map λo=>(o.length:Int):=sr (l:=es)▸v.sim es.length
theorem iT.VC (v:iT H w m ak es a7 bl tc):ga ak (cD ak mP (e0::es)) (1+es.length):=sr (l:=es)▸v.rs es.length
theorem kV:∀{es:List bo} {i pm:Nat},gc H ak i pm es->pm<=40->fK pm es<=40
 | [],_,_,_,h=>h
 |_::r,_,_,h,_=>kV (es:=r) h.2 h.1.m1
theorem sj:∀{es:List bo} {i pm:Nat} {t:Int},gc H ak i pm es->0<=t->t<1000->0<=eI t es/\eI t es<1000
 | [],_,_,_,_,h1,h2=>⟨h1,h2⟩
 |_::r,_,_,_,h,_,_=>sj (es:=r) h.2 h.1.t0 h.1.t1
theorem mI:∀{es:List bo} {i pm:Nat} (j:Nat),gc H ak i pm es->gc H ak i pm (es.take j)
 | [],_,_,_,_=>by rw [List.take_nil];trivial
 |_::_,_,_,0,_=>trivial
 |_::r,_,_,j+1,h=>⟨h.1,mI (es:=r) j h.2⟩
theorem lc {ak:List bg}:(eh ak a0 es).idx=((es.length+1:Nat):Int):=tB.trans (Int.add_comm _ _)
theorem iT.SH (v:iT H w m ak es a7 bl tc)(j:Nat):nX (eh ak a0 (es.take j)):=by
 have Km:(es.take j).length<=20:=cy (by rw [List.length_take];exact Nat.min_le_right _ _) v.len
 refine LM (v.sim j).1 (v.rs j) v.ok (by lia) ?_ ?_ ?_
 ·rw [jk (m:=1) rfl]
  exact Dm _ (kV (mI j v.hE) (by decide))
 ·rw [lc];exact fw _
 ·rw [lc];lia
theorem iT.Pj (v:iT H w m ak es a7 bl tc):nX (eh ak a0 es):=sr (l:=es)▸v.SH es.length
end
theorem Bs (m:Nat):(fN m).Pairwise (·< ·):=List.pairwise_map.mpr (List.pairwise_lt_range.imp λh=>by lia)
theorem Bj {m:Nat}(h:m<=40):∀x∈fN m,0<=x/\x<128:=λx hx=>by
 refine aZ (gD hx) λk hk de=> ?_;subst de
 have:=List.mem_range.mp hk
 lia
theorem Co {lo hi:Int}{m:Nat}(e:fD lo hi=fN m):Mine.bG Bi.tuple [.range lo hi] H= .ok (.tuple (iL (fN m))) H:=congrArg (λl=>dz.ok (SV.tuple (iL l)) H) e
theorem Ul:∀v∈iL xs,Dp 1 v:=λv hv=>by
 refine aZ (gD hv) λx u8 de=> ?_;subst de
 trivial
noncomputable def gM (w:Wd)(m:Mc)(s c:Int)(f:Nat->Option SV):cR:= [f 0,f 1,some (.ref w.nm),f 3,some (.ref m.si),some (.ref m.mi),some (.ref w.lg),some (.ref w.fO),some (.int s),some (.int c),
 f 10,f 11,f 12,f 13,f 14,f 15,f 16,f 17,f 18,f 19,f 20,f 21,f 22,f 23,f 24,f 25,f 26,f 27,f 28,f 29,f 30,f 31,f 32,f 33,f 34,f 35,f 36,f 37]
structure Dr where
 x:Int
 act:Int
 y:Int
 w:Bool
 mr:Nat
noncomputable def JI (f:Nat->Option SV)(a:Dr)(n:Nat):Nat->Option SV
 |1=>some (.int a.x)
 |11=>some (.int a.act)
 |12=>some (.int a.y)
 |13=>some (.int (wi a.w))
 |15=>some (.ref a.mr)
 |16=>some (.int n)
 |k=>f k
noncomputable def wn (w:Wd)(m:Mc)(s c:Int)(f:Nat->Option SV)(a:Dr)(n:Nat):cR:=gM w m s c (JI f a n)
structure En where
 term:Int
 cf:SV
 mem:Nat
 one:Int
 kind:Int
 data:Option SV
noncomputable def Sv (f:Nat->Option SV)(b:En):Nat->Option SV
 |19=>some (.int b.term)
 |20=>some b.cf
 |21=>some (.int b.mem)
 |24=>some (.int b.one)
 |25=>some (.int b.kind)
 |26=>b.data
 |k=>f k
noncomputable def gO (w:Wd)(m:Mc)(s c:Int)(f:Nat->Option SV)(a:Dr)(n:Nat)(b:En):cR:=gM w m s c (Sv (JI f a n) b)
theorem Eb {es:List bo}{k:Nat}(hw:EW ak es){bl:List (Nat×List Op)}(hb:bl.map (·.2)=v0::jH ak a0 es):
  (bl.take (k+1)).map (·.2)=v0::jH ak a0 (es.take k)/\pS (bl.take (k+1)) jQ=fV (eh ak a0 (es.take k)):=by
 have e1:(bl.take (k+1)).map (·.2)=v0::jH ak a0 (es.take k):=by
  rw [List.map_take,hb]
  exact congrArg (v0:: ·) (vq k)
 refine ⟨e1, ?_⟩
 rw [AK,e1]
 show DW (jH ak a0 (es.take k)) (eU v0 jQ)=_
 rw [show eU v0 jQ=fV a0 from Bn _]
 exact y7 λe he=>hw e (List.mem_of_mem_take he)
theorem Qw {n:Nat}:Dp (n+2) (.tuple (iL xs)):=Am λu8=>trivial
noncomputable def Q7 (xs:List Int):SV:= .tuple [.tuple (iL xs), .tuple [], .tuple [], .tuple [], .bool false]
theorem Jw {a b d:Int}:Dp 6 (.tuple [.int a, .int b,Q7 xs, .int d]):=
 bN trivial (bN trivial (bN (bN Qw (bN iZ (bN iZ (bN iZ (bN trivial iZ))))) (bN trivial iZ)))
theorem GJ {a7 n:Nat}(h1:1<=a7)(h2:a7<=n+1)(y:Int){C:Prop}(K:∀k:Nat,(a7:Int)+y%(((n+1:Nat):Int) - a7+1)=((k+1:Nat):Int)->k<=n->C):C:=by
 have h0:=Int.emod_nonneg y (show ((n+1:Nat):Int) - a7+1≠0 by lia)
 have h1:=Int.emod_lt_of_pos y (show (0:Int)<((n+1:Nat):Int) - a7+1 by lia)
 generalize y%(((n+1:Nat):Int) - a7+1)=z at*
 obtain ⟨z,rfl⟩:=Int.eq_ofNat_of_zero_le h0
 exact K (a7+z - 1) (by lia) (by lia)
theorem Ki {k:Nat}(h:k<=es.length){C:Prop}(K:∀ek,(e0::es)[k]? =some ek->fK 1 (es.take k)=ek.mem->eI 1 (es.take k)=ek.term->C):C:=
 have e:=eW (l:=e0::es) (Nat.lt_succ_of_le h)
 K _ e (v5 e).1 (v5 e).2
theorem Dz {si:Nat}:bD P (.ref H.length) 59 (.bool b) (H++ [aX si 0 0 [] 0 false])=some (H++ [aX si 0 0 [] 0 b]):=
 have h:(H++ [aX si 0 0 [] 0 false])[H.length]? =some (aX si 0 0 [] 0 false):=dW ..
 (lY h rfl (show 6<100 by decide) rfl).trans (congrArg some yb)
theorem GI (x:Kx [H.length] (H++ [o]) H'):Ke H H' :=λi u8 e=>
 x i _ (λq=>Nat.lt_irrefl i ((eF q).symm▸(gw e).1)) (Gr.at ⟨_,rfl⟩ e)
theorem Fp {H H2:HP}{s k:Nat}{es:List bo}{ek:bo}{bl:List (Nat×List Op)}(hE:gc H ak 1 1 es)(hb:bl.map (·.2)=v0::jH ak a0 es)(ha:nX (eh ak a0 (es.take k)))(hk:k<=es.length)(hm:fK 1 (es.take k)=ek.mem)(ht:eI 1 (es.take k)=ek.term)
  (st:eQ H2 s (s+1) (s+2) (pS (bl.take (k+1)) jQ) (bl.take (k+1)) ((k+1:Nat):Int) (fH (bl.take (k+1)))) (d:Nat) {C:Prop}
  (K:∀H5 kr,run P (d+7) 70 [.ref H2.length] (H2++ [aX s 0 0 [] 0 sync])= .ok (.tuple [.int ((k+1:Nat):Int), .int ek.term, .ref kr]) H5->d8 H5 kr (fN ek.mem)->MS H5 ⟨H2.length,s,s+1,s+2⟩ sync ak (es.take k) ((k+1:Nat):Int) ((k+1:Nat):Int) (bl.take (k+1))->Ke H2 H5->C):C:=by
 obtain ⟨Ri,hd2⟩:=Eb (k:=k) hE.ew hb
 rw [hd2] at st
 have Vm:=mI k hE
 have MD:=kV Vm (show 1<=40 by decide)
 have UT:=sj (t:=1) Vm (by decide) (by decide)
 have hl:=congrArg List.length Ri
 rw [bI,dq,tU,List.length_take_of_le hk] at hl
 have hi:=lc (ak:=ak) (es:=es.take k)
 rw [List.length_take_of_le hk] at hi
 have QL:(eh ak a0 (es.take k)).term=ek.term:=mJ.trans ht
 rw [hm] at MD
 refine Om (xs:=fN ek.mem) (sync:=sync) (dW ..) (st.gr ⟨[aX s 0 0 [] 0 sync],rfl⟩) (by rw [hl]) ha (by rw [QL,<-ht];exact UT.1) (by rw [QL,<-ht];exact UT.2) (by rw [jk (m:=1) rfl,hm]) (Bs _) (λx hx=>(Bj MD x hx).2) (by rw [t9];exact lC ‹_› rfl) (d+2) λH5 kr e5 c5 m5 x5=> ?_
 rw [hi,QL] at e5
 exact K H5 kr e5 c5 ⟨hi▸m5,st.ke (GI x5),Ri⟩ (GI x5)
noncomputable def Qu (f:Nat->Option SV)(mi:Nat)(keep term:Int)(kr:Nat)(cv:SV)(rp:Nat)(z:Option SV):Nat->Option SV
 |14=>z
 |17=>some (.ref mi)
 |18=>some (.int keep)
 |19=>some (.int term)
 |20=>some (.ref kr)
 |21=>some cv
 |22=>some (.ref rp)
 |k=>f k
theorem EH {k:Nat}:((k+1:Nat):Int) - 1=(k:Int):=Int.add_sub_cancel (k:Int) 1
section
variable {H:HP}{w:Wd}{m:Mc}{ak:List bg}{es:List bo}{a7:Nat}{bl:List (Nat×List Op)}{tc:Nat}
theorem iT.Lm {cC:Nat}(v:iT H w m ak es a7 bl tc)(k:Kp H H')(q:MS H' m' w.sync ak es cC cC vH)(h1:1<=cC)(h2:cC<=es.length+1)(h3:w.sync=true->cC=es.length+1):iT H' w m' ak es cC vH tc:=
 {v with hn:=k _ _ v.hn (kf _),hL:=k _ _ v.hL mH,hA:=k _ _ v.hA tZ,ms:=q,hE:=v.hE.kp k,s1:=h1,s2:=h2,s3:=h3}
theorem IQ (v:iT H w m ak es a7 bl tc)(a:Dr)(f:Nat->Option SV)(cuts:Int)(d:Nat){C:Prop}
  (K:∀f' H' m' cC vH,aK P (run P (d+7)) IR (wn w m a7 cuts f a (es.length+1)) H= .next (gM w m' (cC:Nat) 1 f') H'->iT H' w m' ak es cC vH tc->C):C:=by
 refine GJ v.s1 v.s2 a.y λk hk Ms=>Ki Ms λek Wi Uy het=> ?_
 have xY:=v.ms.len
 refine Tx (aU:=a7) (pick:=a.y) (keep:=k+1) v.ms.cI (xY▸v.s2) (by have:=v.len;lia) (xY▸hk) (d+5) λH2 e2 XF k2=> ?_
 refine Fp (sync:=w.sync) v.hE v.ms.PQ (v.SH k) Ms Uy het XF d λH5 kr e5 c5 m5 k5=> ?_
 have k5:=k2.trans k5
 have MD:ek.mem<=40:=Uy▸kV (mI k v.hE) (by decide)
 have lk:∀{H' :HP},Ke H H'->dH (.ref w.lg) (.int (((k+1:Nat):Int) - 1)) H' = .ok ek.sv H' :=λh=>EH (k:=k)▸gz (h _ _ v.hL) (FQ Wi)
 refine pt v.ok (k5 _ _ v.hA) (k5 _ _ v.hL) v.wf (show es.length+1<40 by have:=v.len;lia) (d+5) λso H6 Rm g6 rd u8=> ?_
 have hr:=rd.fB
 rw [v.LR.2.1] at hr
 have k6:=k5.trans g6.ke
 have m6:=m5.tr g6.ke.kl.QN
 generalize H5.length=rp at*
 refine zG (lg:=w.lg) (k:=k) (s:=((k+1:Nat):Int)) v.SH (by have:=v.len;exact lC ‹_› rfl) d (L:=λz=>gM w ⟨H2.length,H.length,H.length+1,H.length+2⟩ ((k+1:Nat):Int) 1 (Qu (JI f a (es.length+1)) H2.length ((k+1:Nat):Int) ek.term kr (Q7 (fN ek.mem)) rp z)) (λu8=>rfl) (λu8=>rfl) (λu8=>rfl) (λu8=>rfl) (λu8 u8=>rfl) (es.length - k) 0 H6 _ (f 14) (by lia) (by rw [CG];exact m6) (gc.kl k6.kl v.hE) (k6 _ _ v.hL) hr λH7 Um XN Yx m7 k7=> ?_
 have hN:fa (.range ((k+1:Nat):Int) ((es.length+1:Nat):Int)) H6=es.length - k:=by
  show ((((es.length+1:Nat):Int)) - ((k+1:Nat):Int)).toNat=_
  lia
 have kp:Kp H H7:=k6.kp.trans k7
 have go:∀{o:cQ},aK P (run P (d+7)) (bx 11 IR) (gM w ⟨H2.length,H.length,H.length+1,H.length+2⟩ ((k+1:Nat):Int) 1 (Qu (JI f a (es.length+1)) H2.length ((k+1:Nat):Int) ek.term kr (Q7 (fN ek.mem)) rp XN)) H7=o->aK P (run P (d+7)) IR (wn w m a7 cuts f a (es.length+1)) H=o:=λ{o} ho=>
  ae (bJ rfl) (ae (bJ (aw (q:= .fn 92) (v:= .ref m.si) rfl (bO v.ms.cI.st) (aa rfl af) e2)) (ae (bJ (v:= .int ((k+1:Nat):Int)) (aJ (x:= .int a7) (y:= .int (a.y%(((es.length+1:Nat):Int) - a7+1))) rfl (aJ rfl (aJ (aJ rfl rfl rfl) rfl rfl) (fE (by have:=v.s2;lia) (by have:=v.len;lia))) (congrArg (λz=>dz.ok (SV.int z) H2) hk)))
   (ae (bJ (lw (aa rfl af) rfl (xC (d+6) H2))) (ae (bU (aE rfl (Gr.at ⟨_,rfl⟩ (k2 _ _ v.ms.hm)) rfl) rfl Dz) (ae (bJ rfl) (ae (lu (vs:= [.int ((k+1:Nat):Int), .int ek.term, .ref kr]) (aw (q:= .fn 70) (v:= .ref H2.length) rfl (bO (dW ..)) af e5) rfl)
   (ae (bJ (v:=Q7 (fN ek.mem)) (cX (aa (bq (aa (bq (aa rfl (aa (aJ (aN (aN rfl (aJ rfl rfl rfl) (lk k5)) rfl (o:= .ok (.int ek.mem) _) rfl) rfl rfl) af)) (jW (by decide) (by lia) (by lia))) af) (Co (sy ek.mem))) (aa (cX af) (aa (cX af) (aa (cX af) (aa rfl af)))))))
   (ae (cF (an (cX (aa rfl (aa rfl (aa (aw (q:= .fn 51) (v:= .ref kr) (R:=run P (d+7)) rfl (by obtain ⟨v1,a1,b1,c1,hc,_⟩:=c5.ex;exact bO hc) af (B5 c5 (d+6))) (aa (aE rfl m5.hm rfl) af))))) (cX (aa rfl (aa (v:= .int ek.term) (aN (aN rfl (aJ rfl rfl rfl) (lk k5)) rfl (o:= .ok (.int ek.term) _) rfl) (aa rfl (aa rfl af))))) (rR (λu8 z=>nomatch z) Jw)) aj)
   (ae (bJ (v:= .ref rp) (aN (cz (aa rfl (aa rfl af)) Rm) rfl rfl)) (ae (f_ (v:= .range ((k+1:Nat):Int) ((es.length+1:Nat):Int)) (bq (aa rfl (aa rfl af)) (jW (by exact fw _) (by lia) (by have:=v.len;lia))) (by rw [hN];exact Yx)) ho))))))))))
 rcases Bool.eq_false_or_eq_true w.sync with hs|hs
 ·rw [hs] at m7
  exact K _ H7 _ (es.length+1) Um (nc (gM w _ ((es.length+1:Nat):Int) 1) (go (ae (eZ (qz (aE rfl m7.hm (hs▸rfl))) (ae (bJ rfl) aj)) aj)) rfl) (v.Lm kp (hs▸m7) (Nat.succ_pos _) (bS _) λu8=>rfl)
 ·rw [hs] at m7
  exact K _ H7 _ (k+1) Um (go (ae (cF (qz (aE rfl m7.hm (hs▸rfl))) aj) aj)) (v.Lm kp (hs▸m7) (Nat.succ_pos _) (Nat.succ_le_succ Ms) λz=>nomatch hs.symm.trans z)
end
noncomputable def Rg:SS->cA
 | .lH b _ _=>b
 |_=> .nil
noncomputable def P0:cA:=nj (cL (km FU))
noncomputable def Og:cA:=nj (cL (km (cL (km FU))))
noncomputable def vT:cA:=km (cL (km (cL (km FU))))
theorem ve (t i k:Int)(b:By)(d:Nat)(H:HP):run P (d+1) 45 [.ref H.length, .int t, .int i, .int k, .bytes b] (H++ [.inst 12 []])= .ok .none (H++ [lm t i k b]):=
 bW rfl rfl (ae (bU rfl rfl (jb (fs' := [(62, .int t)]) rfl (show 0<100 by decide) rfl)) (ae (bU rfl rfl (jb (fs' := [(62, .int t),(28, .int i)]) rfl (show 1<100 by decide) rfl))
  (ae (bU rfl rfl (jb (fs' := [(62, .int t),(28, .int i),(32, .int k)]) rfl (show 2<100 by decide) rfl)) (ae (bU rfl rfl (jb rfl (show 3<100 by decide) rfl)) aj))))
theorem oT {H H1:HP}{r:Nat}(d:Nat)(h:bj P (run P (d+2)) e l H= .ok (.ref r) H1)(g:Gr H H1)(hr:H1[r]? =some (.list (iL xs)))(hp:xs.Pairwise (·< ·))(hl:xs.length<64){C:Prop}
  (K:∀H' k,bj P (run P (d+2)) (.callC 13 (.cons e (.cons (.list .nil) (.cons (.list .nil) (.cons (.list .nil) (.cons (.bool false) .nil)))))) l H= .ok (.ref k) H'->Gr H H'->d8 H' k xs->C):C:=by
 have g3:Gr H1 (((H1++ [SO.list []])++ [SO.list []])++ [SO.list []]):=Gr.trans (Gr.trans ⟨_,rfl⟩ ⟨_,rfl⟩) ⟨_,rfl⟩
 refine mF (za (H:=((H1++ [SO.list []])++ [SO.list []])++ [SO.list []]) (g3.at hr) (Gr.at ⟨_,rfl⟩ (Gr.at ⟨_,rfl⟩ (dW ..))) (Gr.at ⟨_,rfl⟩ (dW ..)) (dW ..) hp hl d) λH2 e2 g4 c2=> ?_
 exact K H2 _ (lw (aa h (aa (bE af) (aa (bE af) (aa (bE af) (aa rfl af))))) rfl e2) ((g.trans g3).trans g4) c2
section
variable {H:HP}{w:Wd}{m:Mc}{ak:List bg}{es:List bo}{a7:Nat}{bl:List (Nat×List Op)}{tc:Nat}
theorem Gd (v:iT H w m ak es a7 bl tc)(a:Dr)(f:Nat->Option SV)(cuts:Int)(d:Nat){C:Prop}
  (K:∀f' H',aK P (run P (d+7)) P0 (wn w m a7 cuts f a (es.length+1)) H= .next (gM w m ((es.length+1:Nat):Int) cuts f') H'->iT H' w m ak es (es.length+1) bl tc->C):C:=by
 have q:=v.ms
 have cI:=q.cI
 have eA:(bl.map λp:Nat×List Op=>SV.ref p.1).length=es.length+1:=(bI _).trans q.len
 have e1:=FP cI.st cI.bb (d+6)
 rw [eA] at e1
 have KW:m.si≠m.mi:=cV cI.st q.hm (fJ rfl)
 have Ut:m.bi≠m.si:=cV cI.bb cI.st (fJ rfl)
 have Xs:m.bi≠m.mi:=cV cI.bb q.hm (fJ rfl)
 refine aZ cI.dd λso d1 d2=> ?_
 have Nv:m.di≠m.si:=cV d1 cI.st (eD d2)
 have V3:m.di≠m.mi:=cV d1 q.hm (eD d2)
 have m1:=bP (o:=bH m.di m.bi ((es.length+1:Nat):Int) (fH bl)) (Ne.symm KW) q.hm
 have s1:=eB (o:=bH m.di m.bi ((es.length+1:Nat):Int) (fH bl)) cI.st
 have e2:=pA m1 s1 (bP Ut cI.bb) (by rw [eA]) (d+5)
 have kp:Kp H ((H.set m.si (bH m.di m.bi ((es.length+1:Nat):Int) (fH bl))).set m.mi (aX m.si (eh ak a0 es).idx (eh ak a0 es).term (eh ak a0 es).aP (eh ak a0 es).idx w.sync)):=xL q.hm cI q.ne λj o hj e=>by
  simp only [List.mem_cons,List.not_mem_nil,or_false,not_or] at hj
  exact bP hj.1 (bP hj.2.1 e)
 exact K _ _ (nc (gM w m ((es.length+1:Nat):Int) cuts) (ae (bZ (aw (q:= .fn 88) (v:= .ref m.si) rfl (bO cI.st) af e1)) (ae (bZ (aw (q:= .fn 71) (v:= .ref m.mi) rfl (bO m1) af e2)) (ae (bJ rfl) aj))) rfl)
  (v.Lm kp ⟨(eB m1).trans (congrArg (λz=>some (aX m.si (eh ak a0 es).idx (eh ak a0 es).term (eh ak a0 es).aP z w.sync)) lc),⟨bP KW s1,⟨so,bP V3 (bP Nv d1),d2⟩,bP Xs (bP Ut cI.bb),λp hp=>⟨kp _ _ (cI.at_ p hp).1 (vj _),(cI.at_ p hp).2⟩⟩,q.PQ⟩ (Nat.le_add_left 1 _) (bS _) λu8=>rfl)
theorem sG (v:iT H w m ak es a7 bl tc){n:Int}(hn:n≠((es.length+1:Nat):Int)+1)(n0:0<=n)(n1:n<1000)(h5:l[5]? =some (some (.ref m.mi)))(UG:l[18]? =some (some (.int n)))(RT:(al l 23 (.bool false))[18]? =some (some (.int n)))(Xz:(al l 23 (.bool false))[5]? =some (some (.ref m.mi)))(WP:(al (al l 23 (.bool false)) 23 (.bool true))[23]? =some (some (.bool true)))(d:Nat){C:Prop}
  (K:∀H',aK P (run P (d+7)) (te (cL Og)) l H= .next (al (al l 23 (.bool false)) 23 (.bool true)) H'->Gr H H'->C):C:=by
 refine oT (H:=H++ [lm 9 n 0 []]) (l:=al l 23 (.bool false)) (xs:= [7]) (e:= .list (.cons (.int 7) .nil)) (d+5) (bE (aa rfl af)) ⟨_,rfl⟩ (dW ..) (List.pairwise_singleton _ _) (by decide) λH2 k e2 g2 c2=> ?_
 have g:=Gr.trans ⟨_,rfl⟩ g2
 have hi:=lc (ak:=ak) (es:=es)
 have e3:=Jm (cf:= .ref k) (g.at v.ms.hm) (g2.at (dW ..)) (hi▸hn) n0 n1 (hi▸fw _) (hi▸(by have:=v.len;lia)) (d+6)
 exact K H2 (ae (bJ rfl) (ae (uN (vI (yQ (aw (q:= .fn 74) (v:= .ref m.mi) (R:=run P (d+7)) (bc Xz) (bO v.ms.hm) (aa (lw (aa rfl (aa (bc RT) (aa rfl (aa rfl af)))) rfl (ve 9 n 0 [] (d+6) H)) (aa e2 af)) e3))) rfl) (ae (cF (mx (q:=true) (gA WP)) aj) aj))) g
end
theorem IB {a b:Nat}(h:SV.ref a=SV.ref b):a=b:=by cases h;rfl
section
variable {H:HP}{w:Wd}{m:Mc}{ak:List bg}{es:List bo}{a7:Nat}{bl:List (Nat×List Op)}{tc:Nat}{e:bo}
theorem iT.ke (v:iT H w m ak es a7 bl tc)(g:Ke H H'):iT H' w m ak es a7 bl tc:=
 {v with hn:=g _ _ v.hn,hL:=g _ _ v.hL,hA:=g _ _ v.hA,ms:=v.ms.tr g.kl.QN,hE:=v.hE.kl g.kl}
theorem Iz (v:iT H w m ak es a7 bl tc)(a:Dr)(f:Nat->Option SV)(cuts:Int)(d:Nat){C:Prop}
  (K:∀f' H',aK P (run P (d+7)) Og (wn w m a7 cuts f a (es.length+1)) H= .next (gM w m a7 cuts f') H'->iT H' w m ak es a7 bl tc->C):C:=by
 have eA:=v.len
 have f1:(H++ [SO.list [.int ((es.length+1:Nat):Int), .int (((es.length+1:Nat):Int)+2)]])[H.length]? =some (.list [.int ((es.length+1:Nat):Int), .int (((es.length+1:Nat):Int)+2)]):=dW ..
 have v1:=v.ke (Gr.ke ⟨[SO.list [.int ((es.length+1:Nat):Int), .int (((es.length+1:Nat):Int)+2)]],rfl⟩)
 refine sG v1 (n:=((es.length+1:Nat):Int)) (by lia) (by exact fw _) (by lia) (l:=al (wn w m a7 cuts f a (es.length+1)) 18 (.int ((es.length+1:Nat):Int))) rfl rfl rfl rfl rfl d λH2 e2 g2=> ?_
 refine sG (v1.ke g2.ke) (n:=((es.length+1:Nat):Int)+2) (by lia) (by lia) (by lia) (l:=al (al (al (al (wn w m a7 cuts f a (es.length+1)) 18 (.int ((es.length+1:Nat):Int))) 23 (.bool false)) 23 (.bool true)) 18 (.int (((es.length+1:Nat):Int)+2))) rfl rfl rfl rfl rfl d λH3 e3 g3=> ?_
 have hN:=d0 f1
 exact K _ H3 (nc (gM w m a7 cuts) (ae (f_ (v:= .ref H.length) (bE (aa rfl (aa (aJ rfl rfl rfl) af))) (by
  rw [hN]
  exact fq (em f1 0) rfl e2 (fq (em (g2.at f1) 1) rfl e3 (ju (em (g3.at (g2.at f1)) 2))))) aj) rfl) ((v1.ke g2.ke).ke g3.ke)
theorem IG (v:iT H w m ak es a7 bl tc)(lF:ak≠ [])(R:au){C:Prop}
  (K:∀H2,dl R .nf (.ref w.lg) [e.sv] H= .ok .none H2->H2[w.lg]? =some (.list ((e0::(es++ [e])).map bo.sv))->H2[w.fO]? =some (.list (ak.map bg.sv))->Kl H H2->C):C:=by
 have e2:=jT (R:=R) (v:=e.sv) v.hL (fM (Nat.le_of_eq (bI _)) (show es.length+1<4096 by have:=v.len;lia))
 have WV:(e0::es).map bo.sv++ [e.sv]=(e0::(es++ [e])).map bo.sv:=(eJ (f:=bo.sv) (l₁:=e0::es) (l₂:= [e])).symm
 rw [WV] at e2
 refine K _ e2 (eB v.hL) (bP (λq=> ?_) v.hA) (Gq v.hL (bS 5))
 have h1:=v.hA
 rw [q,v.hL] at h1
 cases ak with
 |nil=>exact lF rfl
 |cons a r=>
  have:=congrArg (λo=>match o with|some (SO.list (SV.tuple t::_))=>t.length|_=>0) h1
  exact absurd (show (5:Nat)=6 from this) (by decide)
theorem iT.ent {cC KY:Nat}(v:iT H w m ak es a7 bl tc)(hn:H'[w.nm]? =some (.list (iL w.ns)))(hL:H'[w.lg]? =some (.list ((e0::(es++ [e])).map bo.sv)))(hA:H'[w.fO]? =some (.list (ak.map bg.sv)))(ms:MS H' m w.sync ak (es++ [e]) cC cC vH)(hE:gc H' ak 1 1 (es++ [e]))
  (ho:qQ ak (cD ak mP (e0::es)) e.one) (lF:ak≠ []) (t0:0<=e.term) (t1:e.term<=2+es.length) (m1:1<=e.mem) (m3:e.mem<=3) (eA:es.length<20) (RL:(du ak (cD ak mP (e0::es)) e.one).told.length=KY) (Dd:KY<=es.length+1) (s1:1<=cC) (s2:cC<=es.length+2) (s3:w.sync=true->cC=es.length+2):
  iT H' w m ak (es++ [e]) cC vH KY:=by
 have wO:(es++ [e]).length=es.length+1:=aL
 have og:cD ak mP (e0::(es++ [e]))=du ak (cD ak mP (e0::es)) e.one:=oa (es:=e0::es)
 exact {hn:=hn,n0:=v.n0,n1:=v.n1,hL:=hL,hA:=hA,ms:=ms,hE:=hE,ok:=v.ok,up:=v.up,wf:=qg (es:=e0::es) v.wf ho,told:=og▸RL,num:=v.num,len:=wO▸eA,HF:=wO▸Dd,s1:=s1,s2:=wO▸s2,s3:=wO▸s3,t0:=oB (es:=es)▸t0,t1:=by rw [oB,wO];lia,m1:=n6 (es:=es)▸m1,m3:=n6 (es:=es)▸m3,ne:=λz=>absurd z lF}
theorem iT.fB (v:iT H w m ak es a7 bl tc)(ho:qQ ak (cD ak mP (e0::es)) e.one):(cD ak mP (e0::(es++ [e]))).fB.map ob=(cD ak mP (e0::es)).fB.map ob++ [ob (lW (eh ak a0 es) (kF ak e.one))]:=by
 rw [show cD ak mP (e0::(es++ [e]))=_ from oa (es:=e0::es),(xK v.LR.1 v.up v.ok ho).2.1]
 exact eJ
theorem qH (v:iT H w m ak es a7 bl tc)(he:e.er= .ref H.length){kind:Int}(hw:gb kind data (kF ak e.one))(Xh:nV H e.cr cm)(Y9:cm=none/\e.mem=fK 1 es∨cm=some (fN e.mem))(ho:qQ ak (cD ak mP (e0::es)) e.one)(lF:ak≠ [])
  (t0:0<=e.term) (t1:e.term<=2+es.length) (m1:1<=e.mem) (m3:e.mem<=3) (eA:es.length<20) {KY:Nat} (RL:(du ak (cD ak mP (e0::es)) e.one).told.length=KY) (Dd:KY<=es.length+1) (a:Dr) (f:Nat->Option SV) (cuts:Int) (d:Nat) {C:Prop}
  (K:∀f' H' cC vH,aK P (run P (d+7)) (bx 6 vT) (gO w m a7 cuts f a (es.length+1) ⟨e.term,e.cr,e.mem,CX e.one,kind,some (.bytes data)⟩) H= .next (gM w m (cC:Nat) cuts f') H'->iT H' w m ak (es++ [e]) cC vH KY->C):C:=by
 have e1:=ve e.term (((es.length+1:Nat):Int)+1) kind data (d+6) H
 have g1:Gr H (H++ [lm e.term (((es.length+1:Nat):Int)+1) kind data]):=⟨_,rfl⟩
 have f1:(H++ [lm e.term (((es.length+1:Nat):Int)+1) kind data])[H.length]? =some (lm e.term ((es.length:Int)+2) kind data):=(dW ..).trans (congrArg (λz=>some (lm e.term z kind data)) (by lia))
 generalize H++ [lm e.term (((es.length+1:Nat):Int)+1) kind data]=H1 at*
 have v1:=v.ke g1.ke
 have Hw:jL H1 ak ((es.length:Int)+2) (fK 1 es) e:=⟨⟨H.length,kind,data,cm,he,f1,hw,Xh.kl g1.ke.kl,Y9⟩,t0,by lia,by exact lA ‹_› rfl⟩
 refine IG (e:=e) v1 lF (run P (d+7)) λH2 e2 un VG kl=>AM (v1.ms.tr kl.QN) (Hw.kl kl) (jk (m:=1) rfl) v.Pj (dR eA (by decide)) d λH3 er r h3 e3 Xi kp=> ?_
 obtain rfl:H.length=er:=IB (he.symm.trans h3)
 refine pt v.ok (kp _ _ VG tZ) (kp _ _ un mH) (qg (es:=e0::es) v.wf ho) (show (es++ [e]).length+1<40 by rw [aL];exact dR (Nat.succ_lt_succ (Nat.succ_lt_succ eA)) (by decide)) (d+5) λso H4 e4 g4 rd u8=> ?_
 have r4:=rd.fB
 rw [v.fB ho] at r4
 have hN:=g4.at (kp _ _ (kl _ _ mu v1.hn) (kf _))
 have hE:=gc.kl g4.ke.kl (uV ((v1.hE.kl kl).kp kp) (by rw [show (((1+es.length:Nat):Int)+1)=(es.length:Int)+2 by lia];exact (Hw.kl kl).kp kp))
 have m4:=Xi.tr g4.ke.kl.QN
 have go:∀{o:cQ},aK P (run P (d+7)) (bx 9 vT) (al (gO w m a7 cuts f a (es.length+1) ⟨e.term,e.cr,e.mem,CX e.one,kind,some (.bytes data)⟩) 35 (.ref H.length)) H4=o->aK P (run P (d+7)) (bx 6 vT) (gO w m a7 cuts f a (es.length+1) ⟨e.term,e.cr,e.mem,CX e.one,kind,some (.bytes data)⟩) H=o:=λ{o} h=>
  ae (bJ (lw (aa rfl (aa (aJ rfl rfl rfl) (aa rfl (aa rfl af)))) rfl e1)) (ae (bZ (aw (vs:= [e.sv]) rfl (bO v1.hL) (aa (v:=e.sv) (by unfold bo.sv;rw [he];exact cX (aa rfl (aa rfl (aa rfl (aa rfl (aa rfl af)))))) af) e2))
   (ae (cF (an (aw (q:= .fn 74) (v:= .ref m.mi) (R:=run P (d+7)) rfl (bO (kl _ _ jq v1.ms.hm)) (aa rfl (aa rfl af)) e3) (aN (aN (cz (aa rfl (aa rfl af)) e4) rfl rfl) rfl (en r4)) (wj _ _)) aj) h))
 have eR:∀(f' :Nat->Option SV) (cC:Nat),(bif w.sync then (es.length:Int)+2 else (a7:Int))=cC->1<=cC->cC<=es.length+2->(w.sync=true->cC=es.length+2)->aK P (run P (d+7)) (bx 6 vT) (gO w m a7 cuts f a (es.length+1) ⟨e.term,e.cr,e.mem,CX e.one,kind,some (.bytes data)⟩) H= .next (gM w m (cC:Nat) cuts f') H4->C:=λf' cC q1 q2 q3 q4 q5=>
  K f' H4 cC _ q5 (v.ent hN (g4.at (kp _ _ un mH)) (g4.at (kp _ _ VG tZ)) (q1▸m4) hE ho lF t0 t1 m1 m3 eA RL Dd q2 q3 q4)
 rcases Bool.eq_false_or_eq_true w.sync with hs|hs
 ·exact eR _ (es.length+2) (by rw [hs];rfl) (Nat.succ_pos _) (bS _) (λu8=>rfl) (nc (gM w m ((es.length+2:Nat):Int) cuts) (go (ae (eZ (qz (aE rfl m4.hm (hs▸rfl))) (ae (bJ (v:= .int ((es.length+2:Nat):Int)) (aJ (x:= .int ((es.length+1:Nat):Int)) (y:= .int 1) rfl rfl rfl)) aj)) aj)) rfl)
 ·exact eR _ a7 (by rw [hs];rfl) v.s1 (Nat.le_succ_of_le v.s2) (λz=>nomatch hs.symm.trans z) (nc (gM w m a7 cuts) (go (ae (cF (qz (aE rfl m4.hm (hs▸rfl))) aj) aj)) rfl)
end
noncomputable def K1:cA:=nj (cL (bx 5 vT))
noncomputable def J1:cA:=km (cL (bx 5 vT))
theorem xR {c:iY}(ok:c.Ok)(h6:c.kind<=6)(d:Nat)(h:dM P (run P (d+4)) es l H= .ok [.int c.kind, .int c.d9, .int c.number, .bytes c.key, .bytes c.value,ob c.expect] H1){C:Prop}
  (K:∀H',bj P (run P (d+4)) (.eu (.callC 14 es) 21 .nil) l H= .ok (.bytes c.enc) H'->Gr H1 H'->C):C:=by
 have f:(H1++ [c.so])[H1.length]? =some c.so:=dW ..
 refine aZ (Kc ok h6 f d) λH2 e2 g2=> ?_
 exact K H2 (aw (q:= .fn 59) (v:= .ref H1.length) (lw h rfl (AO c (d+3) H1)) (bO f) af e2) (Gr.trans ⟨_,rfl⟩ g2)
noncomputable def CZ:iY:=⟨1,5,999, [107], [33],none⟩
noncomputable def LQ:iY:=⟨7,5,999, [107], [33],none⟩
theorem Bp:CZ.Ok:=⟨by decide,by decide,by decide,by decide,by decide,by decide,by decide,by decide,λu8 h=>nomatch h⟩
theorem HY:LQ.Ok:=⟨by decide,by decide,by decide,by decide,by decide,by decide,by decide,by decide,λu8 h=>nomatch h⟩
theorem Ag {lo hi:Int}{m:Nat}(e:fD lo hi=fN m):Mine.bG Bi.list [.range lo hi] H= .ok (.ref H.length) (H++ [SO.list (iL (fN m))]):=congrArg (λl=>dz.ok (SV.ref H.length) (H++ [SO.list (iL l)])) e
theorem Aj {R:au}{y k:Int}(h:l[12]? =some (some (.int y)))(h2:decide (y%4=k)=q):gK P R (.cmp .eq (.bin .mod (.loc 12) (.int 4)) (.int k)) l H= .ok q H:=ip (aJ (bc h) rfl (fE (by decide) (by decide))) h2
theorem wQ {R:au}{y a b:Int}(h:l[12]? =some (some (.int y)))(a0:0<a)(a1:a<1000000000)(b0:0<b)(b1:b<1000000000):bj P R (.bin .mod (.bin .fdiv (.loc 12) (.int a)) (.int b)) l H= .ok (.int ((y/a)%b)) H:=aJ (aJ (bc h) rfl (mQ a0 a1)) rfl (fE b0 b1)
theorem OC (y:Int){C:Prop}(K:∀k:Nat,1+y%3=(k:Int)->1<=k->k<=3->C):C:=by
 have h0:=Int.emod_nonneg y (show (3:Int)≠0 by decide)
 have h1:=Int.emod_lt_of_pos y (show (0:Int)<3 by decide)
 generalize y%3=z at*
 exact K (1+z).toNat (by lia) (by lia) (by lia)
section
variable {H:HP}{w:Wd}{m:Mc}{ak:List bg}{s c:Int}{n:Nat}
theorem D8 (a:Dr)(h3:a.y%4≠3){mem:Nat}(m1:1<=mem)(m3:mem<=3)(f:Nat->Option SV)(t:Int)(b:Option SV)(d:Nat){C:Prop}
  (K:∀f' H' cf cm nW kind data,aK P (run P (d+7)) K1 (gO w m s c f a n ⟨t, .none,mem, -1,0,b⟩) H= .next (gO w m s c f' a n ⟨t,cf,nW, -1,kind,some (.bytes data)⟩) H'->Gr H H'->
   gb kind data .no->nV H' cf cm->cm=none/\nW=mem∨cm=some (fN nW)->1<=nW->nW<=3->C):C:=by
 have e5:∀(l:cR) (H:HP),(∀H',bj P (run P (d+7)) (.eu (.callC 14 (.cons (.int 1) (.cons (.int 5) (.cons (.int 999) (.cons (.bytes [107]) (.cons (.bytes [33]) (.cons .none .nil))))))) 21 .nil) l H= .ok (.bytes CZ.enc) H'->Gr H H'->C)->C:=λl H k=>xR Bp (by decide) (d+3) rfl k
 have eR:∀{H' :HP} {kind:Int} {data:By} (l:cR),aK P (run P (d+7)) K1 (gO w m s c f a n ⟨t, .none,mem, -1,0,b⟩) H= .next l H'->l=gO w m s c (fr l) a n ⟨t, .none,mem, -1,kind,some (.bytes data)⟩->Gr H H'->gb kind data .no->C:=λl h hl g hw=>
  K _ _ .none none mem _ _ (nc (λf' =>gO w m s c f' a n ⟨t, .none,mem, -1,_,some (.bytes _)⟩) h hl) g hw .no (.inl ⟨rfl,rfl⟩) m1 m3
 by_cases q0:a.y%4=0
 ·refine OC (a.y/4) λnW hm b1 b3=>oT (H:=H) (xs:=fN nW) (l:=al (al (al (gO w m s c f a n ⟨t, .none,mem, -1,0,b⟩) 26 (.bytes [])) 25 (.int 2)) 21 (.int nW)) (e:= .bG .list (.cons (.bG .range (.cons (.int 1) (.cons (.bin .add (.loc 21) (.int 1)) .nil))) .nil)) (d+5)
   (bq (aa (bq (aa rfl (aa (aJ rfl rfl rfl) af)) (jW (by decide) (by lia) (by lia))) af) (Ag (sy nW))) ⟨_,rfl⟩ (dW ..) (Bs _) (by rw [t9];exact lC ‹_› rfl) λH1 k e1 g1 c1=>e5 (al (al (al (al (gO w m s c f a n ⟨t, .none,mem, -1,0,b⟩) 26 (.bytes [])) 25 (.int 2)) 21 (.int nW)) 20 (.ref k)) H1 λH2 e2 g2=> ?_
  exact K _ H2 (.ref k) (some (fN nW)) nW 2 CZ.enc (nc (λf' =>gO w m s c f' a n ⟨t, .ref k,nW, -1,2,some (.bytes CZ.enc)⟩) (ae (bJ rfl) (ae (eZ (Aj rfl (bf q0)) (ae (bJ rfl) (ae (bJ (aJ (x:= .int 1) rfl (wQ (y:=a.y) rfl (by decide) (by decide) (by decide) (by decide)) (congrArg (λz=>dz.ok (SV.int z) H) hm))) (ae (bJ e1) (ae (bJ e2) aj))))) aj)) rfl)
   (g1.trans g2) (.idle (.inl rfl)) (.yes k _ (c1.gr g2) (Bj (cy b3 (by decide))) (by rw [t9];exact lC ‹_› rfl)) (.inr rfl) b1 b3
 by_cases q1:a.y%4=1
 ·exact e5 (al (gO w m s c f a n ⟨t, .none,mem, -1,0,b⟩) 26 (.bytes [])) H λH2 e2 g2=>eR _ (ae (bJ rfl) (ae (cF (Aj rfl (aR q0)) (ae (eZ (Aj rfl (bf q1)) (ae (bJ (v:= .bytes (CZ.enc++ [0])) (aJ e2 rfl (hM (by decide) rfl))) aj)) aj)) aj)) rfl g2 (.more (by decide) CZ Bp 0 rfl)
 by_cases q2:(a.y/4)%2=1
 ·exact e5 (al (gO w m s c f a n ⟨t, .none,mem, -1,0,b⟩) 26 (.bytes [])) H λH2 e2 g2=>eR _ (ae (bJ rfl) (ae (cF (Aj rfl (aR q0)) (ae (cF (Aj rfl (aR q1)) (ae (eZ (ip (wQ rfl (by decide) (by decide) (by decide) (by decide)) (bf q2)) (ae (bJ (v:= .bytes LQ.enc) (aJ rfl (Hf e2 rfl rfl (KT (x:=1) (b:= [5,231,7,1,107,1,33,0]))) (hM (by decide) rfl))) aj)) aj)) aj)) aj)) rfl g2 (.Bo (by decide) LQ HY (by decide) rfl)
 ·exact eR _ (ae (bJ rfl) (ae (cF (Aj rfl (aR q0)) (ae (cF (Aj rfl (aR q1)) (ae (cF (ip (wQ rfl (by decide) (by decide) (by decide) (by decide)) (aR q2)) aj) aj)) aj)) aj)) rfl Gr.refl (.idle (.inr rfl))
theorem wW {k:Nat}(mq:lX ak)(hA:H[w.fO]? =some (.list (ak.map bg.sv)))(hk:k<ak.length)(a:Dr)(f:Nat->Option SV)(t:Int)(cf:SV)(mem:Nat)(kind:Int)(b:Option SV)(d:Nat){C:Prop}
  (K:∀f' H' u,aK P (run P (d+7)) (bx 1 J1) (gO w m s c f a n ⟨t,cf,mem,k,kind,b⟩) H= .next (gO w m s c f' ⟨a.x,a.act,a.y,u,a.mr⟩ n ⟨t,cf,mem,k,kind,some (.bytes (ak.getD k dA).c.enc)⟩) H'->Gr H H'->gb 0 (ak.getD k dA).c.enc (kF ak (some k))->C):C:=by
 refine Ue (mq.ok _ (jP hk)) λhc h6 uy hv DI=> ?_
 have e0:=me hA hk
 have NE:gb 0 (ak.getD k dA).c.enc (kF ak (some k)):= .cmd (by decide) _ _ hc h6 rfl DI uy hv
 generalize ak.getD k dA=q at*
 have e1:=qJ (d+6) H
 have s1:=DI▸KV q.dF H
 refine xR (c:=q.c) hc h6 (d:=d+3) (l:=dJ (gO w m s c f a n ⟨t,cf,mem,k,kind,b⟩) [13,27,31,32,34,33] [.int (wi q.dF), .int q.c.number, .int q.c.kind, .bytes q.c.key, .bytes q.c.value,ob q.c.expect]) (aa (e:= .loc 31) rfl (aa (e:= .sub (.fS 93 .nil) (.loc 13)) (aN (cz af e1) rfl s1) (aa (e:= .loc 27) rfl (aa (e:= .loc 32) rfl (aa (e:= .loc 34) rfl (aa (e:= .loc 33) rfl af)))))) λH2 e2 g2=> ?_
 exact K _ H2 q.dF (nc (λf' =>gO w m s c f' ⟨a.x,a.act,a.y,q.dF,a.mr⟩ n ⟨t,cf,mem,k,kind,some (.bytes q.c.enc)⟩) (ae (lu (vs:= [.int (wi q.dF), .int q.c.number, .int q.c.kind, .bytes q.c.key, .bytes q.c.value,ob q.c.expect]) (aN rfl rfl e0) rfl) (ae (bJ e2) aj)) rfl) (Gr.trans ⟨_,rfl⟩ g2) NE
end
noncomputable def QH:cA:=km (cL J1)
noncomputable def gj (ak:List bg)(w:Bool):List Nat:=(List.range ak.length).filter λk=>decide ((ak.getD k dA).dF=w)
theorem xa {ak:List bg}{k:Nat}(h:k∈gj ak w):k<ak.length/\(ak.getD k dA).dF=w:=
 have h:=List.mem_filter.mp h
 ⟨List.mem_range.mp h.1,of_decide_eq_true h.2⟩
theorem yT {k:Nat}(h:k<ak.length)(h2:(ak.getD k dA).dF=w):k∈gj ak w:=List.mem_filter.mpr ⟨List.mem_range.mpr h,bf h2⟩
theorem JM {ak:List bg}:(gj ak w).Pairwise (·< ·):=List.Pairwise.filter _ List.pairwise_lt_range
theorem I7 {ak:List bg}:(gj ak w).length<=ak.length:=cy (List.length_filter_le _ _) (Nat.le_of_eq List.length_range)
theorem oU (y:Int){n:Nat}(h:0<n){C:Prop}(K:∀j:Nat,y%(n:Int)=j->j<n->C):C:=by
 have h0:=Int.emod_nonneg y (show (n:Int)≠0 by lia)
 have h1:=Int.emod_lt_of_pos y (show (0:Int)<n by lia)
 generalize y%(n:Int)=z at*
 exact K z.toNat (by lia) (by lia)
theorem vA {i:Nat}:al (al l i v) i x=al l i x:=List.set_set ..
section
variable {H:HP}{w:Wd}{m:Mc}{ak:List bg}{s c:Int}{n:Nat}
theorem Ao (a:Dr)(wV:H[a.mr]? =some (.list (dn (gj ak a.w))))(lF:gj ak a.w≠ [])(ha:a.act<5)(hl:ak.length<1000)(f:Nat->Option SV)(t:Int)(cf:SV)(mem:Nat)(kind:Int)(b:Option SV)(R:au){C:Prop}
  (K:∀k:Nat,k∈gj ak a.w->gJ P R (cL J1) (gO w m s c f a n ⟨t,cf,mem, -1,kind,b⟩) H= .next (gO w m s c f a n ⟨t,cf,mem,k,kind,b⟩) H->C):C:=by
 refine oU (a.y/2) (List.length_pos_iff.mpr lF) λj hj VJ=> ?_
 have hv:(dn (gj ak a.w))[j]? =some (.int ((gj ak a.w)[j]:Nat)):=by
  unfold dn
  rw [hV,eW VJ];rfl
 have zc:=ca wV
 rw [js] at zc
 have hb:cE .mod (.int (a.y/2)) (.int ((gj ak a.w).length:Nat)) H= .ok (.int j) H:=hj▸fE (by lia) (by have:=I7 (ak:=ak) (w:=a.w);lia)
 exact K _ (List.getElem_mem VJ) (eZ (an rfl rfl (gv (bf ha))) (ae (bJ (aN rfl (aJ (aJ rfl rfl (mQ (by decide) (by decide))) (bq (aa rfl af) zc) hb) (gz wV hv))) aj))
theorem I5 (W8:y8 ak)(mq:lX ak)(S8:∀a∈ak,a.c.number<=126+2*(ak.length:Int))(hA:H[w.fO]? =some (.list (ak.map bg.sv)))(a:Dr)(wV:H[a.mr]? =some (.list (dn (gj ak a.w))))(f:Nat->Option SV)(b:En)(R:au){C:Prop}
  (K:∀num:Int,gJ P R (cL (bx 2 QH)) (al (gO w m s c f a n b) 27 (.int 126)) H= .next (al (gO w m s c f a n b) 27 (.int num)) H->(∀i,i<ak.length->(ak.getD i dA).dF=a.w->(ak.getD i dA).c.number<num)->0<=num->num<=126+2*((ak.length:Int)+1)->C):C:=by
 have zc:=ca wV
 rw [js] at zc
 rcases List.eq_nil_or_concat (gj ak a.w) with z|⟨pre,k,z⟩
 ·rw [z] at zc
  exact K 126 (cF (an (bq (aa rfl af) zc) rfl (jI rfl)) aj) (λi hi hw=>nomatch z▸yT hi hw) (by decide) (by lia)
 rw [List.concat_eq_append] at z
 obtain ⟨Eo,JV⟩:=xa (ak:=ak) (w:=a.w) (k:=k) (by rw [z];simp)
 have Pp:=JM (ak:=ak) (w:=a.w)
 rw [z] at zc wV Pp
 rw [<-mW] at wV
 have ZC:=S8 _ (jP Eo)
 have HH:=(mq.ok _ (jP Eo)).1.n0
 have lN:∀i,i<ak.length->(ak.getD i dA).dF=a.w->(ak.getD i dA).c.number<=(ak.getD k dA).c.number:=λi hi hw=>by
  have:=yT hi hw
  rw [z] at this
  rcases gi this with q|q
  ·exact Int.le_of_lt (W8.up i k ((List.pairwise_append.mp Pp).2.2 i q k (.head _)) Eo (hw.trans JV.symm))
  ·rw [eF q];exact Int.le_refl _
 have e1:=me hA Eo
 have hp:(0:Int)<((pre++ [k]).length:Nat):=by rw [aL];exact Int.natCast_pos.mpr (Nat.succ_pos _)
 generalize ak.getD k dA=q at*
 exact oU (a.y/2) (show 0<2 by decide) λj hj Rd=>K (q.c.number+1+j) (eZ (an (bq (aa rfl af) zc) rfl (jI (bf hp))) (ae (bJ (aJ (aJ (aN (aN rfl (aN rfl rfl (en wV)) e1) rfl (o:= .ok (.int q.c.number) _) rfl) rfl rfl) (wQ rfl (by decide) (by decide) (by decide) (by decide)) (congrArg (λz=>dz.ok (SV.int (q.c.number+1+z)) H) hj))) aj)) (λi hi hw=>by have:=lN i hi hw;lia) (by lia) (by lia)
theorem DP {st:RS}{q:Nat}(rd:Jc H q st so)(hA:H[w.fO]? =some (.list (ak.map bg.sv)))(hd:∀x∈st.done u,x<ak.length){R:au}(h7:l[7]? =some (some (.ref w.fO)))(VM:l[29]? =some (some (.ref (q+5))))(J4:l[13]? =some (some (.int (wi u)))):
  ∃z,bj P R (.or (.cons (.cmp .eq (.bG .len (.cons (.sub (.loc 29) (.loc 13)) .nil)) (.int 0)) (.cons (.cmp .eq (.sub (.sub (.loc 7) (.sub (.sub (.loc 29) (.loc 13)) (.neg (.int 1)))) (.int 2)) (.int 6)) .nil))) l H= .ok (.bool z) H:=by
 have ad:=rd.done u
 have hl:=ca ad
 rw [js] at hl
 have es:=aN (R:=R) (bc VM) (bc J4) (kt u rd.lst)
 rcases List.eq_nil_or_concat (st.done u) with z|⟨ys,y,z⟩
 ·rw [z] at hl
  exact ⟨_,Fw (q:=true) (fU (bq (aa es af) hl) rfl rfl) (λq=>nomatch q)⟩
 ·rw [List.concat_eq_append] at z
  have hy:=hd y (by rw [z];simp)
  rw [z,<-mW] at ad
  exact ⟨_,Fw (fU (bq (aa es af) hl) rfl (i5 _ _ _)) (λu8=>fU (aN (aN (bc h7) (aN es rfl (en ad)) (me hA hy)) rfl (o:= .ok (.int (ak.getD y dA).c.kind) _) rfl) rfl (i5 _ _ _))⟩
theorem D4 {j:Nat}(h:j<10):∃k,(iL pT)[j]? =some (.int k)/\0<=k/\k<=6:=
 have hl:j<pT.length:=h
 have h2:=List.all_eq_true.mp (show pT.all (λk=>decide (0<=k)&&decide (k<=6))=true from rfl) _ (List.getElem_mem hl)
 ⟨pT[j],(hV ..).trans (congrArg (Option.map SV.int) (eW hl)),of_decide_eq_true (jF h2).1,of_decide_eq_true (jF h2).2⟩
theorem Gi {y:Int}(KB:(al (al l 30 (.bool q)) 31 (.int 5))[12]? =some (some (.int y)))(T6:(al (al l 30 (.bool q)) 31 (.int 5))[30]? =some (some (.bool q)))(d:Nat){C:Prop}
  (K:∀k H',gJ P (run P (d+1)) (cL (bx 6 QH)) (al (al l 30 (.bool q)) 31 (.int 5)) H= .next (al (al l 30 (.bool q)) 31 (.int k)) H'->Gr H H'->0<=k->k<=6->C):C:=by
 have yes:gK P (run P (d+1)) (.or (.cons (.not (.loc 30)) (.cons (.cmp .eq (.bin .mod (.bin .fdiv (.loc 12) (.int 4)) (.int 4)) (.int 3)) .nil))) (al (al l 30 (.bool q)) 31 (.int 5)) H= .ok true H->C:=λhc=>by
  refine oU (y/4) (show 0<10 by decide) λj hj Rd=> ?_
  refine mF (D4 Rd) λk hk k0 k6=> ?_
  exact K k (H++ [.list (iL pT)]) ((eZ hc (ae (bJ (aN (cz af (Dg d H)) (wQ KB (by decide) (by decide) (by decide) (by decide)) (hj▸o7 (o:= .aM) hk))) aj)).trans (congrArg (cQ.next · _) vA)) ⟨_,rfl⟩ k0 k6
 cases q with
 |false=>exact yes (fu (j0 (mx (gA T6))))
 |true=>
  by_cases q3:(y/4)%4=3
  ·exact yes (fu (cZ (mx (gA T6)) (j0 (ip (wQ KB (by decide) (by decide) (by decide) (by decide)) (bf q3)))))
  ·exact K 5 H (cF (fu (cZ (mx (gA T6)) (cZ (ip (wQ KB (by decide) (by decide) (by decide) (by decide)) (aR q3)) fb))) aj) Gr.refl (by decide) (by decide)
end
theorem JF {j:Nat}(h:j<2){C:Prop}(K:∀k:By,([.bytes [], .bytes [107]]:List SV)[j]? =some (.bytes k)->(k= []∨k= [107])->C):C:=
 K _ ((hV (f:=SV.bytes) (l:= [[], [107]])).trans (congrArg (Option.map SV.bytes) (eW h))) ((cH (List.getElem_mem (l:= [[], [107]]) h)).imp id eF)
theorem MQ {j:Nat}(h:j<3)(o:Option By)(ho:∀b,o=some b->b.length<128){C:Prop}(K:∀e:Option By,([ob o, .none, .bytes [120]]:List SV)[j]? =some (ob e)->(∀b,e=some b->b.length<128)->C):C:=
 K _ ((hV (f:=ob) (l:= [o,none,some [120]])).trans (congrArg (Option.map ob) (eW h))) λb z=>by
  have hm:=List.getElem_mem (l:= [o,none,some [120]]) h
  rw [z] at hm
  rcases cH hm with hm|hm
  ·exact ho b hm.symm
  rcases cH hm with hm|hm
  ·exact GG hm
  ·cases eF hm
   exact (by decide:1<128)
noncomputable def PD:SO->Nat
 | .list (.tuple t::_)=>t.length
 |_=>0
theorem IV {ak:List bg}(h:SO.list (ak.map bg.sv)=o)(a:q9 o)(b:o≠ .list []):False:=by
 subst h
 cases ak with
 |nil=>exact b rfl
 |cons y r=>exact (show ¬6<5 by decide) (a _ _ rfl)
theorem JA {H:HP}{k:Nat}{ak:List bg}(h:H[k]? =some (.list (ak.map bg.sv))):RQ H (H.set k q):=λu8 u8 a b e=>bP (λq=>IV (cq ((q▸h).symm.trans e)) a b) e
theorem IX {ak:List bg}:SO.list ((e0::es).map bo.sv)≠ .list (ak.map bg.sv):=λq=>by
 cases ak with
 |nil=>cases q
 |cons y r=>exact absurd (show (5:Nat)=6 from congrArg PD q) (by decide)
theorem Nb {ak:List bg}{ns:List Int}(h:ns.length≠0):SO.list (iL ns)≠ .list (ak.map bg.sv):=λq=>by
 cases ns with
 |nil=>exact h rfl
 |cons n r=>cases ak<;>cases q
theorem DR {k:Nat}(h:H[k]? =some (.list (ak.map bg.sv)))(hE:gc H ak 1 1 es)(ne:ak= []->es= [])(ho:∀e∈es,∀k,e.one=some k->k<ak.length):gc (H.set k q) (ak++ [x]) 1 1 es:=by
 cases ak with
 |nil=>exact ne rfl▸trivial
 |cons y r=>exact gc.kl (Gq h (by exact (show 5<=6 by decide))) (hE.ask ho)
section
variable {H:HP}{w:Wd}{m:Mc}{ak:List bg}{es:List bo}{a7:Nat}{bl:List (Nat×List Op)}
theorem iT.ask {x:bg}(v:iT H w m ak es a7 bl ak.length)(hx:x.c.Ok/\x.c.kind<=6/\(x.c.key= []∨x.c.key= [107])/\x.c.value.length=1/\x.c.d9=cl x.dF)(hn:∀i,i<ak.length->(ak.getD i dA).dF=x.dF->(ak.getD i dA).c.number<x.c.number)(hb:x.c.number<=126+2*((ak.length:Int)+1)):
  iT (H.set w.fO (.list ((ak++ [x]).map bg.sv))) w m (ak++ [x]) es a7 bl ak.length:=by
 have hle:(ak++ [x]).length=ak.length+1:=aL
 have ho:=Jt v.wf.2
 have h0:=Hi (x:=x) v.ok (es:=e0::es) (n:=0) Ef v.wf
 exact {hn:=bP (cV v.hn v.hA (Nb v.n0)) v.hn,n0:=v.n0,n1:=v.n1,hL:=bP (cV v.hL v.hA IX) v.hL,hA:=eB v.hA,ms:=(v.ms.tr (JA v.hA)).ask ho,hE:=DR v.hA v.hE v.ne ho,ok:=Gh v.ok hx,up:=Ga v.up hn,wf:=h0.2,told:=h0.1.symm▸v.told,num:=λa ha=>hle▸(gi ha).elim (λha=>Int.le_trans (v.num a ha) (by lia)) (λha=>eF ha▸hb),len:=v.len,HF:=v.HF,s1:=v.s1,s2:=v.s2,s3:=v.s3,t0:=v.t0,t1:=v.t1,m1:=v.m1,m3:=v.m3,ne:=λz=>nomatch hle.symm.trans (congrArg List.length z)}
theorem Od (w:Bool):0<=cl w/\cl w<16384:=by cases w<;>decide
theorem JG (v:iT H w m ak es a7 bl ak.length)(a:Dr)(wV:H[a.mr]? =some (.list (dn (gj ak a.w))))(ha:¬a.act<5)(f:Nat->Option SV)(cuts:Int)(t:Int)(cf:SV)(mem:Nat)(kind:Int)(b:Option SV)(d:Nat){C:Prop}
  (K:∀f' H' x,gJ P (run P (d+7)) (cL J1) (gO w m a7 cuts f a (es.length+1) ⟨t,cf,mem, -1,kind,b⟩) H= .next (gO w m a7 cuts f' a (es.length+1) ⟨t,cf,mem,(ak.length:Nat),kind,b⟩) H'->iT H' w m (ak++ [x]) es a7 bl ak.length->C):C:=by
 have eA:=v.len
 have Dd:=v.HF
 have hl:=ca v.hA
 rw [bI] at hl
 refine I5 (s:=a7) (c:=cuts) (n:=es.length+1) (m:=m) v.up v.ok v.num v.hA a wV f ⟨t,cf,mem,(ak.length:Nat),kind,b⟩ (run P (d+7)) λnum e2 n1 n2 n3=> ?_
 refine pt v.ok v.hA v.hL v.wf (show es.length+1<40 by lia) (d+5) λso H1 e3 g3 rd hD=> ?_
 have KC:=v.VC
 have W9:=KC.nw
 have Nh:=KC.dk a.w
 have f2:=rd.now
 obtain ⟨q,e4⟩:=DP (R:=run P (d+7)) (l:=dJ (al (gO w m a7 cuts f a (es.length+1) ⟨t,cf,mem,(ak.length:Nat),kind,b⟩) 27 (.int num)) [28,29] [.ref (H.length+2), .ref (H.length+5)]) rd (g3.at v.hA) Nh rfl rfl rfl
 have sl:f6 (Vb H.length) (.int 2) (.int 4) H1= .ok (.tuple [.ref (H.length+2), .ref (H.length+5)]) H1:=rfl
 generalize H.length=n at*
 generalize cD ak mP (e0::es)=s at*
 refine Gi (H:=H1) (y:=a.y) (q:=q) (l:=dJ (al (gO w m a7 cuts f a (es.length+1) ⟨t,cf,mem,(ak.length:Nat),kind,b⟩) 27 (.int num)) [28,29] [.ref (n+2), .ref (n+5)]) rfl rfl (d+6) λkd H2 e6 g6 k0 k6=> ?_
 refine oU (a.y/40) (show 0<2 by decide) λZw Tb Ub=>JF Ub λkey uy LB=> ?_
 have g7:Gr H2 (H2++ [SO.list [.bytes [], .bytes [107]]]):=⟨_,rfl⟩
 have e7:=xi (d+6) H2
 have s7:=o7 (H:=H2) (o:= .aM) uy
 generalize H2.length=Zl at*
 generalize H2++ [SO.list [.bytes [], .bytes [107]]]=H3 at*
 have f3:=g7.at (g6.at f2)
 have e8:=DQ (R:=run P (d+7)) (k:=key) f3 hD
 refine oU (a.y/80) (show 0<3 by decide) λZi S4 T9=>MQ T9 (s.now key) (λb hb=>fM (W9 key b hb) (by lia)) λex hex RG=> ?_
 have s8:=o7 (H:=H3) (o:= .aM) hex
 have hq:ak.length<20+1:=Nat.lt_succ_of_le (cy Dd eA)
 have b9:=cJ (H:=(H3++ [SO.list [ob (s.now key), .none, .bytes [120]]])++ [SO.list [.int (97+(ak.length:Int))]]) (dW ..) (is:= [97+(ak.length:Int)]) rfl (j9 (by lia) (by lia))
 have g8:Gr H3 ((H3++ [SO.list [ob (s.now key), .none, .bytes [120]]])++ [SO.list [.int (97+(ak.length:Int))]]):=Gr.trans ⟨_,rfl⟩ ⟨_,rfl⟩
 have v9:=v.ke (((g3.trans g6).trans g7).trans g8).ke
 have Rm:=jT (R:=run P (d+7)) (v:=bg.sv ⟨a.w,⟨kd,cl a.w,num,key, [97+(ak.length:Int)],ex⟩⟩) v9.hA (by rw [bI];exact dR hq (by decide))
 rw [pk (f:=bg.sv)] at Rm
 have DI:=Od a.w
 have Ms:key.length<128:=by rcases LB with h|h<;>rw [h]<;>decide
 refine K _ _ _ (nc (λf' =>gO w m a7 cuts f' a (es.length+1) ⟨t,cf,mem,(ak.length:Nat),kind,b⟩) (cF (an rfl rfl (gv (aR ha))) (ae (bJ (bq (aa rfl af) hl)) (ae (bJ rfl) (ae e2 (ae (lu (vs:= [.ref (n+2), .ref (n+5)]) (Hf (cz (aa rfl (aa rfl af)) e3) rfl rfl sl) rfl) (ae (bJ e4) (ae (bJ rfl) (ae e6
  (ae (bJ (aN (cz af e7) (wQ rfl (by decide) (by decide) (by decide) (by decide)) (Tb▸s7))) (ae (bJ (aN (bE (aa (aw rfl (wD f3 hD) (aa rfl af) e8) (aa rfl (aa rfl af)))) (wQ rfl (by decide) (by decide) (by decide) (by decide)) (S4▸s8)))
  (ae (bZ (aw rfl (bO (Gr.at ⟨_,rfl⟩ (g7.at (g6.at (g3.at v.hA))))) (aa (cX (aa rfl (aa rfl (aa rfl (aa rfl (aa (bq (aa (bE (aa (aJ rfl rfl rfl) af)) af) b9) (aa rfl af))))))) af) Rm)) aj))))))))))) rfl)
  (iT.ask (x:=(⟨a.w,⟨kd,cl a.w,num,key, [97+(ak.length:Int)],ex⟩⟩:bg)) v9 ⟨⟨k0,Int.lt_of_le_of_lt k6 (by decide),DI.1,DI.2,n2,by lia,Ms,(by decide:1<128),RG⟩,k6,LB,rfl,rfl⟩ n1 n3)
end
theorem rV:∀(es:List bo) (x:bo),∃pre e,x::es=pre++ [e]/\e.term=eI x.term es/\e.mem=fK x.mem es
 | [],x=>⟨[],x,rfl,rfl,rfl⟩
 |y::r,x=>by
  refine jX (rV r y) λpre e h1 h2 h3=> ?_
  exact ⟨x::pre,e,by rw [h1];rfl,h2,h3⟩
theorem Qg (a b:Bool)(H:HP):bV .eq (.int (wi a)) (.int (wi b)) H=some (decide (a=b)):=by cases a<;>cases b<;>rfl
theorem BQ {fO:Nat}{w:Bool}(hA:H[fO]? =some (.list (ak.map bg.sv)))(hl:ak.length<1000)(h7:l[7]? =some (some (.ref fO)))(J4:l[13]? =some (some (.int (wi w)))):
  gm 1 (.one (.loc 1000)) (some (.sub (.sub (.loc 7) (.loc 1000)) (.int 0), .loc 13)) (.range 0 (ak.length:Nat)) l H=some (dn (gj ak w)):=by
 refine pD (xs:=List.range ak.length) (enc:=λk=> .int (k:Nat)) (f:=λk=> .int (k:Nat)) (p:=λk=>decide ((ak.getD k dA).dF=w)) (λj=> ?_) ?_ rfl (λk hk=>⟨[.int (k:Nat)],rfl, ?_,λu8=>rfl⟩) (by rw [List.length_range];exact lD ‹_› rfl)
 ·show some (if 0+(j:Int)<(ak.length:Nat) then some (SV.int (0+(j:Int))) else none)=_
  rw [Int.zero_add,hV]
  by_cases q:j<ak.length
  ·rw [if_pos (Int.ofNat_lt.mpr q),List.getElem?_range q];rfl
  ·rw [if_neg (λz=>q (Int.ofNat_lt.mp z)),List.getElem?_eq_none (by rw [List.length_range];exact Nat.le_of_not_lt q)];rfl
 ·rw [List.length_range]
  exact congrArg Int.toNat (Int.sub_zero (ak.length:Int))
 ·have e1:vK (.loc 7) l [.int (k:Nat)] H=some (.ref fO):=congrArg (λz:Option (Option SV)=>match z with|some (some v)=>some v|_=>none) h7
  have e2:vK (.loc 13) l [.int (k:Nat)] H=some (.int (wi w)):=congrArg (λz:Option (Option SV)=>match z with|some (some v)=>some v|_=>none) J4
  have e3:rj (.ref fO) (.int (k:Nat)) H=some (ak.getD k dA).sv:=by
   unfold rj
   rw [me hA (List.mem_range.mp hk)]
  show ((((vK (.loc 7) l [.int (k:Nat)] H).bind λx=>(some (SV.int (k:Nat))).bind λy=>rj x y H).bind λx=>(some (SV.int 0)).bind λy=>rj x y H).bind λx=>(vK (.loc 13) l [.int (k:Nat)] H).bind λy=>bV .eq x y H)=_
  rw [e1,e2]
  show (((rj (.ref fO) (.int (k:Nat)) H).bind λx=>(some (SV.int 0)).bind λy=>rj x y H).bind λx=>(some (SV.int (wi w))).bind λy=>bV .eq x y H)=_
  rw [e3]
  exact Qg _ _ H
section
variable {H:HP}{w:Wd}{m:Mc}{ak:List bg}{es:List bo}{a7:Nat}{bl:List (Nat×List Op)}{tc:Nat}{s:Int}
theorem Hk {i mr:Nat}{x cuts:Int}(wV:H[mr]? =some (.list (dn J2)))(Xd:0<=x%8)(PB:x%8<8)(h9:l[9]? =some (some (.int cuts)))(DD:l[10]? =some (some (.int (0+(i:Int)))))(Cc:l[11]? =some (some (.int (x%8))))(Ti:l[15]? =some (some (.ref mr)))(hs:al l 11 (.int (x%8))=l)(R:au){C:Prop}
  (K:∀act:Int,gJ P R (cL (bx 6 yJ)) l H= .next (al l 11 (.int act)) H->0<=act->act<8->(J2= []->act≠3/\act≠4)->(i=0->act=5)->C):C:=by
 have zc:=ca wV
 rw [js] at zc
 have IO:gK P R (.or (.cons (.cmp .eq (.loc 10) (.int 0)) (.cons (.and (.cons (.cmp .eq (.loc 11) (.int 0)) (.cons (.cmp .eq (.loc 9) (.int 1)) .nil))) (.cons (.and (.cons (.cmp .eq (.bG .len (.cons (.loc 15) .nil)) (.int 0)) (.cons (.or (.cons (.cmp .eq (.loc 11) (.int 3)) (.cons (.cmp .eq (.loc 11) (.int 4)) .nil))) .nil))) .nil)))) l H= .ok true H->C:=λh=>
  K 5 (eZ h (ae (bJ rfl) aj)) (by decide) (by decide) (λu8=>⟨by decide,by decide⟩) λu8=>rfl
 by_cases q0:(0+(i:Int))=0
 ·exact IO (fu (j0 (ki DD (bf q0))))
 have n0:=ki (R:=R) (H:=H) DD (aR q0)
 have i0:i≠0:=λz=>q0 (by rw [z];rfl)
 have same:(J2= []->x%8≠3/\x%8≠4)->gK P R (.or (.cons (.cmp .eq (.loc 10) (.int 0)) (.cons (.and (.cons (.cmp .eq (.loc 11) (.int 0)) (.cons (.cmp .eq (.loc 9) (.int 1)) .nil))) (.cons (.and (.cons (.cmp .eq (.bG .len (.cons (.loc 15) .nil)) (.int 0)) (.cons (.or (.cons (.cmp .eq (.loc 11) (.int 3)) (.cons (.cmp .eq (.loc 11) (.int 4)) .nil))) .nil))) .nil)))) l H= .ok false H->C:=λz h=>
  K (x%8) ((cF h aj).trans (congrArg (cQ.next · H) hs.symm)) Xd PB z λz=>absurd z i0
 have two:∃b,gK P R (.and (.cons (.cmp .eq (.loc 11) (.int 0)) (.cons (.cmp .eq (.loc 9) (.int 1)) .nil))) l H= .ok b H:=by
  by_cases q:x%8=0
  ·by_cases z:cuts=1
   ·exact ⟨true,cM (dP (ki Cc (bf q)) (dP (ki h9 (bf z)) fP))⟩
   ·exact ⟨false,cM (dP (ki Cc (bf q)) (iU (ki h9 (aR z))))⟩
  ·exact ⟨false,cM (iU (ki Cc (aR q)))⟩
 obtain ⟨b,hb⟩:=two
 cases b with
 |true=>exact IO (fu (cZ n0 (j0 hb)))
 |false=>
 have hz:bj P R (.bG .len (.cons (.loc 15) .nil)) l H= .ok (.int (J2.length:Nat)) H:=bq (aa (bc Ti) af) zc
 by_cases qm:J2= []
 ·by_cases q3:x%8=3
  ·exact IO (fu (cZ n0 (cZ hb (j0 (cM (dP (ip hz (by rw [qm];rfl)) (dP (fu (j0 (ki Cc (bf q3)))) fP)))))))
  by_cases q4:x%8=4
  ·exact IO (fu (cZ n0 (cZ hb (j0 (cM (dP (ip hz (by rw [qm];rfl)) (dP (fu (cZ (ki Cc (aR q3)) (j0 (ki Cc (bf q4))))) fP)))))))
  ·exact same (λu8=>⟨q3,q4⟩) (fu (cZ n0 (cZ hb (cZ (cM (dP (ip hz (by rw [qm];rfl)) (iU (fu (cZ (ki Cc (aR q3)) (cZ (ki Cc (aR q4)) fb)))))) fb))))
 ·exact same (λz=>absurd z qm) (fu (cZ n0 (cZ hb (cZ (cM (iU (ip hz (aR λz=>qm (List.eq_nil_of_length_eq_zero (Int.ofNat.inj z)))))) fb))))
theorem II {a b c:Int}:Dp 6 (.tuple [.int a, .int b, .int c]):=bN trivial (bN trivial (bN trivial iZ))
theorem FO (v:iT H w m ak es a7 bl tc)(f:Nat->Option SV)(cuts:Int)(R:au):aK P R (bx 8 yJ) (gM w m a7 cuts f) H= .next (gM w m a7 cuts f) H:=by
 refine jX (rV es e0) λpre e h1 h2 h3=> ?_
 have hL:=v.hL
 have eA:=ca hL
 rw [bI,dq] at eA
 rw [h1,eJ] at hL
 have hm:=v.ms.hm
 rw [lc,mJ] at hm
 exact ae (cF (an (cX (aa (aE rfl hm rfl) (aa (aE rfl hm rfl) (aa (aE rfl hm rfl) af)))) (cX (aa (bq (aa rfl af) eA) (aa (v:= .int (eI a0.term es)) (aN (aN rfl rfl (en hL)) rfl (o:= .ok (.int (eI a0.term es)) _) (by rw [show eI a0.term es=e.term from h2.symm];rfl)) (aa rfl af)))) (rR (λu8 z=>nomatch z) II)) aj) aj
end
theorem Kh {k:Nat}(h:k=s.told.length):(du ak s (some k)).told.length=k+1:=by
 have hk:¬k<s.told.length:=λz=>Nat.lt_irrefl _ (h▸z)
 have hl:∀x,(s.told++ [x]).length=k+1:=λx=>List.length_append.trans (congrArg (·+1) h.symm)
 by_cases z:(!decide ((ak.getD k dA).c.kind=5)&&ik ak (s.done (ak.getD k dA).dF))=true
 ·rw [wH hk z];exact hl _
 ·rw [rT hk z];exact hl _
section
variable {H:HP}{w:Wd}{m:Mc}{ak:List bg}{es:List bo}{a7:Nat}{bl:List (Nat×List Op)}
theorem vN (v:iT H w m ak es a7 bl ak.length)(a:Dr)(f:Nat->Option SV)(cuts:Int)(d:Nat)(h:aK P (run P (d+7)) (bx 5 vT) (gO w m a7 cuts f a (es.length+1) ⟨eI 1 es+a.x%2, .none,fK 1 es, -1,0,f 26⟩) H=o):aK P (run P (d+7)) vT (wn w m a7 cuts f a (es.length+1)) H=o:=by
 refine jX (rV es e0) λpre e p1 p2 p3=> ?_
 have hL:=v.hL
 rw [p1,eJ] at hL
 have p2:eI 1 es=e.term:=p2.symm
 have p3:fK 1 es=e.mem:=p3.symm
 rw [p2,p3] at h
 exact ae (bJ (aJ (aN (aN rfl rfl (en hL)) rfl (o:= .ok (.int e.term) _) rfl) (aJ rfl rfl (fE (by decide) (by decide))) rfl)) (ae (bJ (aN (aN rfl rfl (en hL)) rfl (o:= .ok (.int e.mem) _) rfl)) (ae (bJ rfl) (ae (bJ rfl) (ae (bJ rfl) h))))
theorem BF (v:iT H w m ak es a7 bl ak.length)(a:Dr)(wV:H[a.mr]? =some (.list (dn (gj ak a.w))))(eA:es.length<20)(h2:¬(a.act=2/\a.y%4=3))(Zm:a.act≠0/\a.act≠1)(S5:gj ak a.w= []->a.act≠3/\a.act≠4)(lF:a.act=2->ak≠ [])(ha:0<=a.act)(f:Nat->Option SV)(cuts:Int)(d:Nat){C:Prop}
  (K:∀f' H' yZ e cC vH,aK P (run P (d+7)) vT (wn w m a7 cuts f a (es.length+1)) H= .next (gM w m (cC:Nat) cuts f') H'->iT H' w m yZ (es++ [e]) cC vH yZ.length->yZ≠ []->C):C:=by
 have Eo:=v.m1
 have RM:=v.m3
 have Rz:0<=eI 1 es+a.x%2:=Int.add_nonneg v.t0 (Int.emod_nonneg _ (by decide))
 have S6:eI 1 es+a.x%2<=2+es.length:=by
  have h1:=v.t1
  have h2:=Int.emod_lt_of_pos a.x (show (0:Int)<2 by decide)
  lia
 by_cases q2:a.act=2
 ·refine D8 (H:=H) (w:=w) (m:=m) (s:=a7) (c:=cuts) (n:=es.length+1) a (λz=>h2 ⟨q2,z⟩) Eo RM f (eI 1 es+a.x%2) (f 26) d λf' H2 cf cm nW kind data e2 g2 w2 c2 m2 b1 b3=> ?_
  exact qH (v.ke g2.ke) (e:=⟨eI 1 es+a.x%2,nW, .ref H2.length,none,cf⟩) rfl w2 c2 m2 (λk h=>mZ h) (lF q2) Rz S6 b1 b3 eA v.told (Nat.le_succ_of_le v.HF) a f' cuts d λf3 H3 tW Lq e3 v3=>
   K f3 H3 ak _ tW Lq (vN v a f cuts d (ae (eZ (ki rfl (bf q2)) e2) e3)) v3 (lF q2)
 have uQ:=v.told
 by_cases q5:a.act<5
 ·refine Ao (w:=w) (m:=m) (s:=a7) (c:=cuts) (n:=es.length+1) a wV (λz=>by
   have:=S5 z
   lia) q5 (by have:=v.HF;lia) f (eI 1 es+a.x%2) .none (fK 1 es) 0 (f 26) (run P (d+7)) λk hk e1=> ?_
  have J3:=(xa hk).1
  have HR:ak≠ []:=λz=>by rw [z] at J3;exact absurd J3 (Nat.not_lt_zero _)
  refine wW (H:=H) (m:=m) (s:=a7) (c:=cuts) (n:=es.length+1) v.ok v.hA J3 a f (eI 1 es+a.x%2) .none (fK 1 es) 0 (f 26) d λf' H2 u e2 g2 w2=> ?_
  exact qH (v.ke g2.ke) (e:=⟨eI 1 es+a.x%2,fK 1 es, .ref H2.length,some k, .none⟩) rfl w2 .no (.inl ⟨rfl,rfl⟩) (λj h=>cq h▸⟨J3,uQ.symm▸Nat.le_of_lt J3⟩) HR Rz S6 Eo RM eA (by rw [rQ (uQ.symm▸J3)];exact uQ) (Nat.le_succ_of_le v.HF) _ f' cuts d λf3 H3 tW Lq e3 v3=>
   K f3 H3 ak _ tW Lq (vN v a f cuts d (ae (cF (ki rfl (aR q2)) (ae e1 e2)) e3)) v3 HR
 ·refine JG v a wV q5 f cuts (eI 1 es+a.x%2) .none (fK 1 es) 0 (f 26) d λf1 H1 x e1 v1=> ?_
  have hle:(ak++ [x]).length=ak.length+1:=aL
  have J3:ak.length<(ak++ [x]).length:=hle▸Nat.lt_succ_self _
  have HR:ak++ [x]≠ []:=λz=>nomatch hle.symm.trans (congrArg List.length z)
  refine wW (H:=H1) (m:=m) (s:=a7) (c:=cuts) (n:=es.length+1) v1.ok v1.hA J3 a f1 (eI 1 es+a.x%2) .none (fK 1 es) 0 (f 26) d λf' H2 u e2 g2 w2=> ?_
  have uQ:=v1.told
  exact qH (v1.ke g2.ke) (e:=⟨eI 1 es+a.x%2,fK 1 es, .ref H2.length,some ak.length, .none⟩) rfl w2 .no (.inl ⟨rfl,rfl⟩) (λj h=>cq h▸⟨J3,uQ.symm▸bS _⟩) HR Rz S6 Eo RM eA (KY:=(ak++ [x]).length) (by rw [Kh uQ.symm,hle]) (hle▸Nat.succ_le_succ v.HF) _ f' cuts d λf3 H3 tW Lq e3 v3=>
   K f3 H3 _ _ tW Lq (vN v a f cuts d (ae (cF (ki rfl (aR q2)) (ae e1 e2)) e3)) v3 HR
end
theorem P4 (x:Int){C:Prop}(K:∀u:Bool,x%2=wi u->C):C:=(Int.emod_two_eq x).elim (K false) (K true)
section
variable {w:Wd}
theorem turn {a7:Nat}(v:iT H w m ak es a7 bl ak.length){i:Nat}(hi:i<6)(hle:es.length<=i)(HR:i≠0->ak≠ [])(f:Nat->Option SV)(cuts:Int)(d:Nat){C:Prop}
  (K:∀f' H' m' yZ DC cC nN vH,aK P (run P (d+7)) yJ (al (gM w m a7 cuts f) 10 (.int (0+(i:Int)))) H= .next (gM w m' (cC:Nat) nN f') H'->iT H' w m' yZ DC cC vH yZ.length->DC.length<=i+1->yZ≠ []->C):C:=by
 have Dd:ak.length<=i:=cy v.HF hle
 have e1:=yN v.hn v.n0 v.n1 (1+i) (d+6)
 generalize HC w.ns (1+i)=x at*
 refine P4 (x/8) λu hu=> ?_
 have Up:=ca v.hA
 rw [bI] at Up
 have e5:=Hh (R:=run P (d+7)) (i:=15) (it:= .bG .range (.cons (.bG .len (.cons (.loc 7) .nil)) .nil)) (l:=al (al (al (al (al (gM w m a7 cuts f) 10 (.int (0+(i:Int)))) 1 (.int x)) 11 (.int (x%8))) 12 (.int (x/8))) 13 (.int (wi u))) (bq (aa (bq (aa rfl af) Up) af) (ll (by lia))) (BQ (w:=u) v.hA (by lia) rfl rfl)
 have v1:=v.ke (Gr.ke ⟨[SO.list (dn (gj ak u))],rfl⟩)
 have wV:(H++ [SO.list (dn (gj ak u))])[H.length]? =some (.list (dn (gj ak u))):=dW ..
 have wO:=ca v1.hL
 rw [bI,dq] at wO
 generalize H.length=mr at*
 generalize H++ [SO.list (dn (gj ak u))]=H1 at*
 have b1:cE .add (.int 1) (.int (0+(i:Int))) H= .ok (.int ((1+i:Nat):Int)) H:=congrArg (λz=>dz.ok (SV.int z) H) (by lia)
 refine Hk (i:=i) (x:=x) (cuts:=cuts) wV (Int.emod_nonneg x (by decide)) (Int.emod_lt_of_pos x (by decide)) (l:=al (al (al (al (al (al (al (gM w m a7 cuts f) 10 (.int (0+(i:Int)))) 1 (.int x)) 11 (.int (x%8))) 12 (.int (x/8))) 13 (.int (wi u))) 15 (.ref mr)) 16 (.int ((es.length+1:Nat):Int))) rfl rfl rfl rfl rfl (run P (d+7)) λact e7 UK a8 am ai=> ?_
 have go:∀{f' :Nat->Option SV} {H' :HP} {m' :Mc} {yZ:List bg} {DC:List bo} {cC:Nat} {nN:Int} {vH:List (Nat×List Op)},gJ P (run P (d+7)) FU (wn w m a7 cuts (fr (al (gM w m a7 cuts f) 10 (.int (0+(i:Int))))) ⟨x,act,x/8,u,mr⟩ (es.length+1)) H1= .next (gM w m' (cC:Nat) nN f') H'->iT H' w m' yZ DC cC vH yZ.length->DC.length<=i+1->yZ≠ []->C:=λ{f' H' m' yZ DC cC nN vH} h v' =>
  K f' H' m' yZ DC cC nN vH (ae (bJ (cz (aa rfl (aa (aJ rfl rfl b1) af)) e1)) (ae (bJ (aJ rfl rfl (fE (by decide) (by decide)))) (ae (bJ (aJ rfl rfl (mQ (by decide) (by decide)))) (ae (bJ (v:= .int (wi u)) (aJ (x:= .int (x/8)) (y:= .int 2) rfl rfl (hu▸fE (by decide) (by decide)))) (ae e5 (ae (bJ (bq (aa rfl af) wO)) (ae e7 (ae h (FO v' f' nN _))))))))) v'
 have Ln:=Nat.le_succ_of_le hle
 by_cases q5:act=5
 ·subst q5
  exact BF v1 ⟨x,5,x/8,u,mr⟩ wV (by lia) (λz=>absurd z.1 (show (5:Int)≠2 by decide)) ⟨(show (5:Int)≠0 by decide),(show (5:Int)≠1 by decide)⟩ (λu8=>⟨(show (5:Int)≠3 by decide),(show (5:Int)≠4 by decide)⟩) (λz=>absurd z (show (5:Int)≠2 by decide)) UK _ cuts d λf' H2 VI e G9 O2 c1 c2 c3=>
   go (cF (ki rfl rfl) (ae (cF (ki rfl rfl) (ae (cF (cM (iU (ki rfl rfl))) c1) aj)) aj)) c2 (cy (Nat.le_of_eq aL) (Nat.succ_le_succ hle)) c3
 have i0:ak≠ []:=HR λz=>q5 (ai z)
 by_cases q0:act=0
 ·exact IQ v1 ⟨x,act,x/8,u,mr⟩ _ cuts d λf' H2 m2 G9 O2 c1 c2=>go (eZ (ki rfl (bf q0)) c1) c2 Ln i0
 by_cases q1:act=1
 ·exact Gd v1 ⟨x,act,x/8,u,mr⟩ _ cuts d λf' H2 c1 c2=>go (cF (ki rfl (aR q0)) (ae (eZ (ki rfl (bf q1)) c1) aj)) c2 Ln i0
 by_cases q2:act=2/\x/8%4=3
 ·exact Iz v1 ⟨x,act,x/8,u,mr⟩ _ cuts d λf' H2 c1 c2=>go (cF (ki rfl (aR q0)) (ae (cF (ki rfl (aR q1)) (ae (eZ (cM (dP (ki rfl (bf q2.1)) (dP (ip (aJ rfl rfl (fE (by decide) (by decide))) (bf q2.2)) fP))) c1) aj)) aj)) c2 Ln i0
 exact BF v1 ⟨x,act,x/8,u,mr⟩ wV (by lia) q2 ⟨q0,q1⟩ am (λu8=>i0) UK _ cuts d λf' H2 VI e G9 O2 c1 c2 c3=>
  go (cF (ki rfl (aR q0)) (ae (cF (ki rfl (aR q1)) (ae (cF (cM (by
   by_cases z:act=2
   ·exact dP (ki rfl (bf z)) (iU (ip (aJ rfl rfl (fE (by decide) (by decide))) (aR λy=>q2 ⟨z,y⟩)))
   ·exact iU (ki rfl (aR z)))) c1) aj)) aj)) c2 (cy (Nat.le_of_eq aL) (Nat.succ_le_succ hle)) c3
theorem PS (d:Nat){C:Prop}(n:Nat):∀(i:Nat) {H:HP} {m:Mc} {ak:List bg} {es:List bo} {a7:Nat} {bl:List (Nat×List Op)} (f:Nat->Option SV) (cuts:Int),i+n=6->iT H w m ak es a7 bl ak.length->es.length<=i->(i≠0->ak≠ [])->
  (∀f' H' m' yZ DC cC nN vH,forLoop [10] (λl H=>aK P (run P (d+7)) yJ l H) (.range 0 (6:Nat)) (n+1) i (gM w m a7 cuts f) H= .next (gM w m' (cC:Nat) nN f') H'->iT H' w m' yZ DC cC vH yZ.length->C)->C:=by
 induction n with
 |zero=>
  intro i H m ak es a7 bl f cuts hn v hle HR K
  obtain rfl:i=6:=hn
  exact K f H m ak es a7 cuts bl (ju qw) v
 |succ n ih=>
  intro i H m ak es a7 bl f cuts hn v hle HR K
  have hi:i<6:=by lia
  exact turn v hi hle HR f cuts d λf2 H2 m2 VI Zr G9 Qh O2 b1 v2 d3 d4=>ih (i+1) f2 Qh (by lia) v2 d3 (λu8=>d4) λf3 H3 m3 Y4 Wy tW O5 Lq c1 v3=>K f3 H3 m3 Y4 Wy tW O5 Lq (fq (oQ hi) rfl b1 c1) v3
end
theorem vf:∀bl:List (Nat×List Op),fH bl=((bl.map (·.2)).map λo=>(o.length:Int)).sum
 | []=>rfl
 |p::r=>by
  show (p.2.length:Int)+fH r=_
  rw [dY,dY,List.sum_cons,vf r]
theorem Jd {si di bi:Nat}{aU aW:Int}{b:SV}(hs:H[si]? =some (bH di bi aU aW))(hw:Wb H0 [] H)(d:Nat):run P (d+2) 86 [.ref si, .ref H0.length,b] H= .exc 5 H:=
 lf rfl rfl rfl (gZ (eZ (an (aw (R:=run P (d+1)) rfl (po hw (f:=37) rfl (by decide) (by decide)) af (Gg (d:=d) hw)) rfl rfl) (gZ (qE rfl))))
theorem A5:bV .ne (.bool a) (.bool a) H=some false:=by cases a<;>rfl
section
variable {H:HP}{w:Wd}{m:Mc}{ak:List bg}{es:List bo}{a7:Nat}{bl:List (Nat×List Op)}{tc:Nat}
theorem iT.aO (v:iT H w m ak es a7 bl tc)(d:Nat):run P (d+1) 89 [.ref m.si] H= .ok (.bool (decide ((a7:Int)=((es.length+1:Nat):Int)))) H:=by
 have h:=lQ v.ms.cI.st v.ms.cI.bb d
 rw [bI,v.ms.len] at h
 exact h
theorem iT.whole (v:iT H w m ak es a7 bl tc)(d:Nat):∃H',run P (d+7) 100 [.ref m.si, .ref m.mi, .ref w.lg, .ref w.fO] H= .ok (.bool true) H' :=by
 have eA:=v.len
 refine jX (rV es e0) λpre e p1 p2 p3=> ?_
 have Xt:pre.length=es.length:=Nat.succ.inj ((congrArg List.length p1).trans aL).symm
 refine rm v.LR λsim u8 MW=> ?_
 have KC:=v.VC
 have hL:=v.hL
 have UB:=v.wf
 have Vh:=sj (t:=1) v.hE (by decide) (by decide)
 have FX:=mJ (ak:=ak) (es:=es) (a:=a0)
 have vc:fH bl=(cD ak mP (e0::es)).ef.sum:=by
  rw [vf,v.ms.PQ,MW]
  rfl
 have wO:(pre++ [e]).length=es.length+1:=by rw [<-p1];rfl
 rw [p1] at hL UB sim KC vc
 exact B8 v.ms.hm v.ms.cI v.Pj hL v.hA v.ok UB (by lia) sim (by rw [wO,Nat.add_comm];exact KC) (by rw [p3];exact cy v.m3 (by decide)) (by rw [lc,Xt]) (FX.trans p2.symm) (by rw [FX];exact Vh.1) (by rw [FX];exact Vh.2) ((jk (m:=1) rfl).trans (by rw [p3];rfl)) vc d
theorem IY (v:iT H w m ak es a7 bl tc)(f:Nat->Option SV)(cuts:Int)(d:Nat):∃H',aK P (run P (d+7)) (bx 13 uC) (gM w m a7 cuts f) H= .ret (.bool true) H' :=by
 refine oT (H:=H) (xs:= [7]) (l:=al (al (gM w m a7 cuts f) 36 (.bool (decide ((a7:Int)=((es.length+1:Nat):Int))))) 37 (.int 0)) (e:= .list (.cons (.int 7) .nil)) (d+5) (bE (aa rfl af)) ⟨_,rfl⟩ (dW ..) (List.pairwise_singleton _ _) (by decide) λH1 k e1 SF c1=> ?_
 have e2:=J5 (x:= .int 7) (y:= .int 7) (z:= .ref k) (SF.at v.ms.hm) (v.ms.cI.gr SF) (d+5)
 have v1:=v.ke SF.ke
 refine aZ (zf (d+6) (al (al (al (gM w m a7 cuts f) 36 (.bool (decide ((a7:Int)=((es.length+1:Nat):Int))))) 37 (.int 0)) 37 (.int (0+1))) H1) λH2 e3 w3=> ?_
 have e4:=Jd (b:= .bool true) (w3.gr.at v1.ms.cI.st) w3 (d+5)
 have v2:=v1.ke w3.gr.ke
 have wO:=ca v2.hL
 rw [bI,dq] at wO
 obtain ⟨H3,e6⟩:=v2.whole d
 exact ⟨H3,ae (bJ (aw (q:= .fn 89) (v:= .ref m.si) rfl (bO v.ms.cI.st) af (v.aO (d+6)))) (ae (bJ rfl) (ae (uN (vI (yQ (aw (q:= .fn 73) (v:= .ref m.mi) (R:=run P (d+7)) rfl (bO v.ms.hm) (aa rfl (aa rfl (aa e1 af))) e2))) rfl)
  (ae (uN (vI (yQ (aw (q:= .fn 86) (v:= .ref m.si) (R:=run P (d+7)) rfl (bO v1.ms.cI.st) (aa e3 (aa rfl af)) e4))) rfl) (ae (uN (vI (yQ (aw (q:= .fn 91) (v:= .ref m.si) (R:=run P (d+7)) (vs:= [.none, .none, .int 1]) (H2:=H2) rfl (bO v2.ms.cI.st) (aa rfl (aa rfl (aa rfl af))) (Mr (si:=m.si) (x:= .none) (y:= .none) (n:=1) (d+6))))) rfl)
   (ae (cF (fu (cZ (an rfl rfl rfl) (cZ (an rfl (fU rfl (bq (aa rfl af) wO) (i5 _ _ _)) A5) (cZ (an (aw (q:= .fn 89) (v:= .ref m.si) (R:=run P (d+7)) rfl (bO v2.ms.cI.st) af (v2.aO (d+6))) rfl A5) fb)))) aj)
    (aY (bK (cz (aa rfl (aa rfl (aa rfl (aa rfl af)))) e6))))))))⟩
end
section
variable {H:HP}{si di bi mi:Nat}{aU aW:Int}{sync:Bool}
theorem N7 (hm:H[mi]? =some (aX si 0 0 [] 0 sync))(cI:eQ H si di bi jQ [] aU aW)(d:Nat):∃H',run P (d+2) 81 [.ref mi] H= .ok (.ref H.length) H' /\H'[H.length]? =some (.list [])/\Gr H H' :=by
 have g:Gr H (H++ [SO.list []]):=⟨_,rfl⟩
 refine aZ cI.dd λso d1 d2=> ?_
 have e1:=yw (lo:=some [100]) (hi:=some [101]) (g.at cI.st) (g.at d1) d2 d
 rw [aL,ng] at e1
 have hx:(H++SO.list []::([]++ [SO.list [],SO.list []]))[H.length+1]? =some (.list []):=sb
 exact ⟨_,aF rfl rfl (ae (bJ (bE af)) (ae (f_ (v:= .ref (H.length+1)) (aw (q:= .fn 91) (v:= .ref si) (aE rfl (g.at hm) rfl) (bO (g.at cI.st)) (aa rfl (aa rfl (aa rfl af))) e1) (ju (em hx 0))) (aY (bK rfl)))),nE,⟨_,rfl⟩⟩
theorem Po (hm:H[mi]? =some (aX si 0 0 [] 0 sync))(cI:eQ H si di bi jQ [] aU aW)(d:Nat):∃H',run P (d+2) 82 [.ref mi] H= .ok (.ref H.length) H' /\H'[H.length]? =some (.list [])/\Gr H H' :=by
 have g:Gr H (H++ [SO.list []]):=⟨_,rfl⟩
 refine aZ cI.dd λso d1 d2=> ?_
 have e1:=yw (lo:=some [115]) (hi:=some [116]) (g.at cI.st) (g.at d1) d2 d
 rw [aL,ng] at e1
 have hx:(H++SO.list []::([]++ [SO.list [],SO.list []]))[H.length+1]? =some (.list []):=sb
 exact ⟨_,aF rfl rfl (ae (bJ (bE af)) (ae (f_ (v:= .ref (H.length+1)) (aw (q:= .fn 91) (v:= .ref si) (aE rfl (g.at hm) rfl) (bO (g.at cI.st)) (aa rfl (aa rfl (aa rfl af))) e1) (ju (em hx 0))) (aY (bK rfl)))),nE,⟨_,rfl⟩⟩
theorem T4 (hm:H[mi]? =some (aX si 0 0 [] 0 sync))(cI:eQ H si di bi jQ [] aU aW)(d:Nat){C:Prop}(K:∀H',run P (d+3) 83 [.ref mi] H= .ok (.tuple [.int 0, .int 0, .bytes [], .tuple [], .tuple []]) H'->Gr H H'->C):C:=by
 refine mF (N7 hm cI d) λH1 e1 h1 g1=> ?_
 refine mF (Po (g1.at hm) (cI.gr g1) d) λH2 e2 h2 g2=> ?_
 exact K H2 (aF rfl rfl (aY (bK (cX (aa (aE rfl hm rfl) (aa (aE rfl hm rfl) (aa (aE rfl hm rfl) (aa (bq (aa (aw (q:= .fn 81) (v:= .ref mi) (R:=run P (d+2)) rfl (bO hm) af e1) af) (fT h1)) (aa (bq (aa (aw (q:= .fn 82) (v:= .ref mi) (R:=run P (d+2)) rfl (bO (g1.at hm)) af e2) af) (fT h2)) af))))))))) (g1.trans g2)
end
noncomputable def n7 (xs:List Int):List Int:=xs.map λx=>x%999983
theorem ET (lN:xs.length<=7)(l:cR):gm 1 (.one (.bin .mod (.loc 1000) (.int 999983))) none (.ref 0) l [.list (iL xs)]=some (iL (n7 xs)):=by
 have f1:([.list (iL xs)]:HP)[0]? =some (.list (iL xs)):=rfl
 have c1:=pD (w:=1) (k:= .one (.bin .mod (.loc 1000) (.int 999983))) (t:=none) (v:= .ref 0) (l:=l) (p:=λu8=>true) (enc:=SV.int) (f:=λx=> .int (x%999983)) (xs:=xs) (em f1) ((d0 f1).trans (bI _)) rfl (λx hx=>⟨[.int x],rfl,rfl,λu8=>rfl⟩) (by exact lA ‹_› rfl)
 rw [jU] at c1
 exact c1.trans (congrArg some (List.map_map ..).symm)
theorem QA {QO:Nat}(f2:H[QO]? =some (.list (iL ns)))(Xb:ns.length<1000)(h2:∀v,(al l 2 v)[2]? =some (some v))(R:au){C:Prop}
  (K:∀H' nm ns,Gr H H'->H'[nm]? =some (.list (iL ns))->ns.length≠0->ns.length<1000->(∀o,aK P R (bx 2 uC) (al l 2 (.ref nm)) H' =o->aK P R (bx 1 uC) (al l 2 (.ref QO)) H=o)->C):C:=by
 have wO:=ca f2
 rw [show (iL ns).length=ns.length from bI _] at wO
 have hz:=bq (R:=R) (b:= .len) (aa (bc (i:=2) (h2 (.ref QO))) af) wO
 by_cases q:ns= []
 ·exact K _ _ [8] ⟨_,rfl⟩ (dW ..) (by decide) (by decide) λo ho=>ae (eZ (ip hz (by rw [q];rfl)) (ae (bJ (bE (aa rfl af))) aj)) ((congrArg (aK P R (bx 2 uC) · _) vA).trans ho)
 ·exact K _ _ ns ⟨[],(ch _).symm⟩ f2 (λz=>q (List.eq_nil_of_length_eq_zero z)) Xb λo ho=>ae (cF (ip hz (aR λz=>q (List.eq_nil_of_length_eq_zero (Int.ofNat.inj z)))) aj) ho
theorem xQ {mi j:Nat}(hm:H[mi]? =some o')(k:Kx [mi] H H')(h:H[j]? =some o)(ho:o≠o'):H'[j]? =some o:=k _ _ (λq=>cV h hm ho (eF q)) h
theorem eQ.Uk {si di bi mi:Nat}{aU aW i t dd:Int}(h:eQ H si di bi D [] aU aW)(hm:H[mi]? =some (aX si i t c dd b))(k:Kx [mi] H H'):eQ H' si di bi D [] aU aW:=by
 refine aZ h.dd λso d1 d2=> ?_
 exact ⟨xQ hm k h.st λz=>(nomatch z),⟨so,xQ hm k d1 (eD d2),d2⟩,xQ hm k h.bb λz=>(nomatch z),λu8 hp=>jZ hp⟩
noncomputable def l0:cR:= [none,none,none,none,none,none,none,none,none,none,none,none,none,none,none,none,none,none,none,none,none,none,none,none,none,none,none,none,none,none,none,none,none,none,none,none,none,none]
theorem Gb (lN:xs.length<=7)(d:Nat):∃H',aK P (run P (d+7)) (bx 1 uC) (al l0 2 (.ref 1)) [.list (iL xs), .list (iL (n7 xs))]= .ret (.bool true) H' :=by
 refine QA (H:= [.list (iL xs), .list (iL (n7 xs))]) (QO:=1) (ns:=n7 xs) rfl (by rw [show (n7 xs).length=xs.length from bI _];exact lC ‹_› rfl) (l:=l0) (λu8=>rfl) (run P (d+7)) λH3 nm ns g3 hn n0 n1 f3=> ?_
 have e2:=yN hn n0 n1 0 (d+6)
 generalize HC ns 0=lO at*
 have Zq:=(gw hn).1
 have e3:=vC (d+6) (al (al l0 2 (.ref nm)) 3 (.int lO)) H3
 have g4:Gr H3 (H3++ [bH (H3.length+1) (H3.length+2) 0 0,SO.aM,SO.list []]):=⟨_,rfl⟩
 have X7:=oZ H3 []
 have ZB:(H3++ [bH (H3.length+1) (H3.length+2) 0 0,SO.aM,SO.list []]).length=H3.length+3:=aL
 generalize H3++ [bH (H3.length+1) (H3.length+2) 0 0,SO.aM,SO.list []]=H4 at*
 generalize H3.length=si at*
 have f5:(H4++ [aX si 0 0 [] 0 false])[H4.length]? =some (aX si 0 0 [] 0 false):=dW ..
 have e4:=lw (R:=run P (d+7)) (l:=al (al (al l0 2 (.ref nm)) 3 (.int lO)) 4 (.ref si)) (c:=15) (es:= .cons (.loc 4) .nil) (aa (v:= .ref si) rfl af) rfl (xC (si:=si) (d+6) H4)
 have g5:Gr H4 (H4++ [aX si 0 0 [] 0 false]):=⟨_,rfl⟩
 have T8:=X7.gr g5
 have Ta:=g5.at (g4.at hn)
 generalize H4.length=mi at*
 generalize H4++ [aX si 0 0 [] 0 false]=H5 at*
 refine T4 f5 T8 (d+4) λH6 e5 g6=> ?_
 refine My (g6.at f5) (T8.gr g6) (d+4) λH7 e6 m7 k7=> ?_
 have XA:=(T8.gr g6).Uk (g6.at f5) k7
 have Xo:=xQ (g6.at f5) k7 (g6.at Ta) λz=>nomatch z
 have m8:=eB (o:=aX si 0 0 [] 0 (decide (lO%3=1))) m7
 have Y7:=XA.Uk m7 (qr (X:= [mi]) (o:=aX si 0 0 [] 0 (decide (lO%3=1))) (.head _))
 have VW:=xQ m7 (qr (X:= [mi]) (o:=aX si 0 0 [] 0 (decide (lO%3=1))) (.head _)) Xo λz=>nomatch z
 have e7:bD P (.ref mi) 59 (.bool (decide (lO%3=1))) H7=some (H7.set mi (aX si 0 0 [] 0 (decide (lO%3=1)))):=lY m7 rfl (show 6<100 by decide) rfl
 generalize H7.set mi (aX si 0 0 [] 0 (decide (lO%3=1)))=H8 at*
 refine oT (H:=H8) (xs:= [1]) (l:=al (al (al (al l0 2 (.ref nm)) 3 (.int lO)) 4 (.ref si)) 5 (.ref mi)) (e:= .list (.cons (.int 1) .nil)) (d+5) (bE (aa rfl af)) ⟨_,rfl⟩ (dW ..) (List.pairwise_singleton _ _) (by decide) λH9 kc e8 g9 c9=> ?_
 refine Lk (g9.at m8) (Y7.gr g9) c9 (λx hx=>by rw [eF hx];decide) (by decide) (d+1) λOa q e9 Y2 RE X8=> ?_
 have RO:=X8 _ _ (by simp only [List.mem_cons,List.not_mem_nil,or_false,not_or];lia) (g9.at VW)
 have Sz:Gr Oa ((Oa++ [SO.list [e0.sv]])++ [SO.list []]):=Gr.trans ⟨_,rfl⟩ ⟨_,rfl⟩
 refine PS (w:=⟨nm,Oa.length,(Oa++ [SO.list [e0.sv]]).length,ns,decide (lO%3=1)⟩) d 6 0 (m:=⟨mi,si,si+1,si+2⟩) (H:=(Oa++ [SO.list [e0.sv]])++ [SO.list []]) (ak:= []) (es:= []) (a7:=1) (bl:= [(q, [Op.put [97] (fy 1 1 (dC [1]))])]) (fr (al (al l0 2 (.ref nm)) 3 (.int lO))) 0 rfl
  {hn:=Sz.at RO,n0:=n0,n1:=n1,hL:=Gr.at ⟨_,rfl⟩ (dW ..),hA:=dW ..,ms:=⟨Sz.at Y2,RE.gr Sz,rfl⟩,hE:=trivial,ok:=⟨λu8 h=>jZ h⟩,up:=⟨λu8 u8 u8 h=>absurd h (Nat.not_lt_zero _)⟩,wf:=⟨λu8 h=>(nomatch h),trivial⟩,told:=rfl,num:=λu8 h=>(jZ h),len:=Nat.zero_le _,HF:=bS _,s1:=bS _,s2:=bS _,s3:=λu8=>rfl,t0:=by decide,t1:=by decide,m1:=by decide,m3:=by decide,ne:=λu8=>rfl} (bS _) (λz=>absurd rfl z) λf' Zt m' yZ DC cC nN vH c1 c3=> ?_
 obtain ⟨Yf,J6⟩:=IY c3 f' nN d
 exact ⟨Yf,f3 _ (ae (bJ (cz (aa rfl (aa rfl af)) e2)) (ae (bJ e3) (ae (bJ e4)
  (ae (cF (fu (cZ (an (aw (q:= .fn 83) (v:= .ref mi) (R:=run P (d+7)) rfl (bO f5) af e5) (cX (aa rfl (aa rfl (aa rfl (aa (cX af) (aa (cX af) af)))))) rfl) (cZ (an (aw (q:= .fn 70) (v:= .ref mi) (R:=run P (d+7)) rfl (bO (g6.at f5)) af e6) (cX (aa rfl (aa rfl (aa rfl af)))) rfl) fb))) aj)
  (ae (bU (fU (aJ rfl rfl (fE (by decide) (by decide))) rfl (i5 _ _ _)) rfl e7) (ae (bZ (aw (q:= .fn 73) (v:= .ref mi) rfl (bO m8) (aa rfl (aa rfl (aa e8 af))) e9))
  (ae (bJ (bE (aa (cX (aa rfl (aa rfl (aa rfl (aa rfl (aa rfl af)))))) af))) (ae (bJ (bE af)) (ae (bJ rfl) (ae (bJ rfl)
  (ae (f_ (v:= .range 0 (6:Nat)) (bq (aa rfl af) (ll (n:=6) (by decide))) c1) J6)))))))))))⟩
end Mine
namespace Mine
open PySem PySem.W PySem.Calls PyProof.Rows PySem.Spec
theorem yK:Good ⟨.builtin "claim.caller" {},none,none, [],none⟩:=⟨by decide+kernel,λq hq=>jZ hq⟩
theorem yG {R:Result->Shared->Prop}(Mq:s.asleep)
  (h:aG (model prog w) callerA t (λeR s' =>∃f,eR= .done f/\(R (.ok f) s' /\leftWithCleanup s'.gens=false)) (λe s' =>R (.error e) s' /\leftWithCleanup s'.gens=false) s):
  ∃n r s' oy,runN (denote table) prog w n s ⟨t, .builtin "claim.caller" {},default, []⟩= .halted (outcomeOf r) s' /\
   schedN (denote table) prog w n (.single s ⟨t, .builtin "claim.caller" {},default, []⟩)= .halted (outcomeOf r) s' /\s'.forget=oy.forget/\R r oy:=by
 have k:Sem.wp (model prog w) ⟨.builtin "claim.caller" {},none,none, [],none⟩ t (Sem.finPost (model prog w) ⟨.builtin "claim.caller" {},none,none, [],none⟩ λr s' =>R r s' /\leftWithCleanup s'.gens=false)
   (λe u8 s' =>R (.error e) s' /\leftWithCleanup s'.gens=false) default s:=
  Sem.wp_mono _ _ t (λeR p' s' h' =>by obtain ⟨f,rfl,hf⟩:=h';exact hf) (λu8 u8 u8 h' =>h') _ _ (h _ default caller_in yK)
 refine RP (wp_halts_full (M:=model prog w) (R:=R) Mq k) λn r a b h1 h2 h3 h4=> ?_
 exact ⟨n,r,b,a,h2,h1,h3,h4⟩
end Mine
set_option maxHeartbeats 1000000
namespace Mine
open PySem PySem.W PySem.Calls PyProof.Rows PySem.Spec
noncomputable section
theorem Bd:chainsOk q1=true:=by kernel_rfl
theorem KO:LeftO qP q1 pJ (λu8=>true) (λs=>s.heap) (λw=>HI w.params) 7200:=
 LeftO.of_pieces (H₀:=boot_heap) (H₁:=HI) (boot_open Pw rfl λs=>congrFun Mb s) PC Sa rfl λw=>funext λos=>Prod.ext (congrFun (OS w) os) (Prod.ext (congrFun (Qq w) os) rfl)
noncomputable abbrev YL (w:World)(h:Heap):Prop:=∀b o,(HI w.params).get? b=some o->h.get? b=some o
noncomputable def c1 (w:World)(s₀ s:Shared)(mg mb:Str->Option Value):Cx:=⟨qP,w,KF w.params,S0,P,q1,looseW q1 pJ,ExcName.means s₀.heap,mg,mb,s.heap,s.heap, [],callerA,zs "",qP.main.scope,0,0, .none, [],s.gens,s.drawn,s.os⟩
theorem L9:S0.glob.lookup (zs "law")=some (.fn 101):=by kernel_rfl
theorem Rj:dL.name=zs "law":=by kernel_rfl
theorem L1 (w:World):ER (KF w.params) S0 X0 101 ⟨"",1, [],38,true,uC⟩ 2 1 (.one (.bin .mod (.loc 1000) (.int 999983))) .none (bx 1 uC):=Ev.get (Ud w)
theorem ints_list {R:WRecords}{d:WData}(h:WShape.has R d (.list .int)=true):∃xs:List Int,d= .list (xs.map WData.int):=by
 obtain ⟨ys,rfl,h1⟩:=hasW_list h
 obtain ⟨xs,rfl⟩:=items_int h1
 exact ⟨xs,rfl⟩
theorem Eh {Rr:WRecords}{Pm:Params}{h:Heap}{args:List WData}{vals:List Value}(hs:WShape.hasAll Rr args [.list .int]=true)(hw:WellAll Pm h vals args){C:Prop}
  (k:∀(xs:List Int) (aC:List Value) (b:Addr),args= [.list (xs.map WData.int)]->vals= [.ref b]->h.IsList b aC.toArray->(∀{ac ah},aI ac ah (xs.map SV.int) aC)->C):C:=by
 obtain ⟨d,r,rfl,h1,h2⟩:=hasAllW_cons hs
 cases hasAllW_nil h2
 obtain ⟨xs,rfl⟩:=ints_list h1
 obtain ⟨v,vs,rfl,hv,hr⟩:=wellAll_cons_inv hw
 cases hr
 obtain ⟨b,aC,rfl,hg,hi⟩:=KR hv
 exact k xs _ _ rfl rfl ⟨_,hg,rfl,0,rfl⟩ (C5 hi)
theorem EB {w:World}{s₀ s:Shared}{mg mb:Str->Option Value}(G:Ground q1 pJ [] (λu8 u8=>True) w s₀ mg mb s.heap)(Y:YL w s.heap){xs:List Int}{aC:List Value}{b:Addr}(hx:xs.length<=63)(hl:s.heap.IsList b aC.toArray)(hv:∀{ac ah},aI ac ah (xs.map SV.int) aC){Q E:Value->Shared->Prop}
  (q:∀s',(∀b o,s.heap.get? b=some o->s'.heap.get? b=some o)->s'.gens=s.gens->s'.os=s.os->Q (.bool true) s'):aG (model qP w) callerA (PySem.call (.ref (S0.oD 101)) [.ref b]) Q E s:=by
 have XK:(KF w.params).In s.heap:=λb o e=>Y b o (PH w b o e)
 obtain ⟨H',e⟩:=Gb (xs:=xs.take 7) (List.length_take_le ..) 0
 have hle:(xs.map SV.int).length<=big:=by
  rw [bI]
  exact cy hx (by decide)
 have e7:(xs.map SV.int).take 7=iL (xs.take 7):=List.map_take.symm
 exact C9 (c:=c1 w s₀ s mg mb) (X:=X0) (f:=101) (N:=38) (vs:=xs.map SV.int) (KP w) ⟨rfl,λu8 u8 e=>e,trivial⟩ XK G.T XK G.T.nolimit (Th w) ⟨rfl,rfl,rfl⟩ (L1 w) hl hv hle (e7▸ET (xs:=xs.take 7) (List.length_take_le ..) _) (e7▸e) q
theorem MG {xs:List Int}(h:(OpenLaw.row PySem.Challenge.rw_no0425_01).toRowW.claim.pre [.list (xs.map .int)]=true):xs.length<=63:=by
 have h2:=(jF h).2
 have h3:WTm.holds [] (.and (.not (.lt (.lit (.int 63)) (.len (.arg 0)))) (.lit (.bool true))) {args:= [.list (xs.map .int)]}=true:=h2
 simp [WTm.holds,WTm.value,W.less?,Num.less?] at h3
 by_cases q:(63:Int)<xs.length
 ·rw [bf q] at h3
  cases h3
 ·lia
noncomputable abbrev gx:OpenRow:=OpenLaw.row PySem.Challenge.rw_no0425_01
theorem J0 {args:List WData}:gx.toRowW.claim.post args (.bool true) args=true:=by
 have h1:WShape.has [] (.bool true) .bool=true:=by decide+kernel
 have h:WTm.value [] (.eq .res (.lit (.bool true))) {args:=args,res:=some (.bool true),after:=args}=some (.bool (W.same (.bool true) (.bool true))):=by simp [WTm.value]
 exact postW_of (r:=gx.toRowW) h1 h (by decide+kernel)
theorem zC {prog:Program}{w:World}{t:Sem Fin}{s:Shared}{P:Shared->Prop}(Mq:s.asleep)
  (h:aG (model prog w) callerA t (λeR s' =>eR= .done (.ret (.bool true))/\s'.gens= #[]/\P s') (λu8 u8=>False) s) {C:Prop}
  (k:∀n s' oy,runN (denote table) prog w n s ⟨t, .builtin "claim.caller" {},default, []⟩= .halted (.done (.ret (.bool true))) s'->schedN (denote table) prog w n (.single s ⟨t, .builtin "claim.caller" {},default, []⟩)= .halted (.done (.ret (.bool true))) s'->s'.forget=oy.forget->P oy->C):C:=by
 refine RP (yG (R:=λr s' =>r= .ok (.ret (.bool true))/\P s') Mq (gG h (λeR s' q=>⟨_,q.1,⟨rfl,q.2.2⟩,leftWithCleanup_false_of_bare (AllBare.of_eq q.2.1)⟩) λu8 u8 q=>q.elim)) λn r a b h1 h2 h3 h4=> ?_
 obtain ⟨rfl,h4⟩:=h4
 exact k n a b h1 h2 h3 h4
theorem Dn {w:World}{s:Shared}{mg mb:Str->Option Value}(G:Ground q1 pJ [] (λu8 u8=>True) w s mg mb s.heap)(Y:YL w s.heap)(hz:s.asleep)(hg:s.gens= #[]){free:Addr->Prop}{gens:Prop}{aU:Heap->Prop}(P5:∀h,aU h):
  gx.toRowW.claim.CallFrom (callStub gx.name) w free gens aU s:=by
 intro args OI TA ord OB
 have hs:=(pre_splitW OI).1
 obtain ⟨⟨vs,s₁⟩,xp⟩:=Option.isSome_iff_exists.mp (layAllW_isSome (P:=w.params) (ord:=ord) G.has args _ s hs)
 have keeps:=layAllW_keeps _ _ _ xp
 have Rb:=layAllW_rest _ _ _ xp
 have wl:WellAll w.params s₁.heap vs args:=well_layAllW OB args s _ xp _ λu8 u8 e=>e
 have G₁:=G.keeps (λu8 u8 u8 u8 u8=>trivial) keeps
 have Y₁:YL w s₁.heap:=λb o e=>keeps _ _ (Y b o e)
 refine Eh hs wl λxs aC b e1 e2 hl hv=> ?_
 subst e1 e2
 have ha:=mg_of (λb o e=>Y₁ b o (PH w b o e)) G₁.T.g ((KP w).R9 _ _ L9).1
 refine zC (prog:=gx.prog) (w:=w) (s:=s₁) (t:=do match<-nsGet mainNs gx.name with
   |some f=>do ret (<-PySem.call f [.ref b])
   |none=>unsupported "claim.caller:no-such-global") (P:=λs' =>(∀b o,s₁.heap.get? b=some o->s'.heap.get? b=some o)/\s'.os=s₁.os) (Shared.asleep_of_life Rb.2.2.2 hz)
  (ag (ap (wpAny_nsGet G₁.T.g ?_))) λn s2 s3 SL Mv Wt hp=> ?_
 ·rw [show mg gx.name=_ from ha]
  exact ag (EB G₁ Y₁ (MG OI) hl hv λs' hk WK IK=>aq ⟨rfl,WK.trans (Rb.1.trans hg),hk,IK⟩)
 have hf:=Shared.forget_eq Wt
 have hk:∀b o,s₁.heap.get? b=some o->s2.heap.get? b=some o:=λb o e=>hf.1▸hp.1 b o e
 have IK:s2.os=s₁.os:=hf.2.2.2.1.trans hp.2
 refine mF (reads_layAllW OB _ _ _ xp TA s2.heap hk) λas XI u8 u8=> ?_
 exact ⟨_,s₁,xp,n,_,s2,Mv, .inl ⟨.bool true,rfl,λu8=>rfl,⟨.bool true,_, [],as, .bool _,XI,J0,λu8=>⟨.nil,λu8 h=>jZ h,λu8 h=>jZ h⟩,λu8 u8=>ident_freeW (r:=gx.toRowW) rfl rfl rfl _ _⟩,λu8 h=>mZ h,λb o e u8 u8 u8=> .inl (hk b o e),λu8 h=>jZ h⟩,λu8 i x hx=>(by rw [hg] at hx;simp at hx),P5 _,congrArg _ ((runN_life _ _ _ SL).trans Rb.2.2.2),Shared.rest_eq (IK.trans Rb.2.2.1)⟩
theorem OU:gx.prog.bare:=⟨rfl,rfl,rfl,rfl,rfl,by decide+kernel⟩
theorem MR:opensWell gx.prog=true:=by decide+kernel
theorem N6:gx.toRowW.promised:=⟨[.list []],by decide+kernel,by decide+kernel⟩
theorem CD (TR:gx.wellSaid=true):gx.Holds:=by
 refine ⟨TR,N6,⟨OU,MR,rfl⟩,N6.witness,λw=>⟨(KO.behind (XP:=λu8 u8=>True) (λu8 u8=>trivial) Bd w).1,λs' M7=> ?_⟩⟩
 obtain ⟨s₀,hf,Yy,s,hT,hz,Os,hg,G,y⟩:=(KO.behind (XP:=λu8 u8=>True) (λu8 u8=>trivial) Bd w).2 s' M7
 refine ⟨s₀,hf,Yy,s,hT,λn hn=> ?_,λu8 h=>jZ h,λu8 h=>jZ h,Dn G (λb o h=>y▸h) hz (Array.eq_empty_of_size_eq_zero (beq_iff_eq.mp Os)) λu8 h=>xh h⟩
 obtain rfl:n=gx.name:=eF hn
 exact pinned_of_view hg G Sq SD TC
end
end Mine
open PySem PySem.W PyProof.Rows
set_option maxHeartbeats 8000000 in
theorem PySem.Challenge.cw_no0425_01_holds : PySem.Challenge.rw_no0425_01.Holds := by
 refine holds_law ?_ Mine.CD
 delta OpenLaw.wellSaid OpenRow.wellSaid OpenRow.partSaid looksOpen
 repeat' with_reducible refine look_both ?_ ?_
 all_goals decide+kernel
