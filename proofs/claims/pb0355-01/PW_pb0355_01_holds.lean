import PyProof.Rows.All
import Wide.All
import OpenK.AllK
import Wide.FinOn
import KE.BitLaws
import KE.KItem
import KE.KSlice
import PyProof.Rows.SumAny
import PyProof.RaisesDict
import PyProof.ListCopy
import PyProof.Rows.StrJoin2
import PyProof.Rows.StrAscii2
import KE.KSliceW
import PyProof.CallStr
import PyProof.StrCalls
import PyProof.EqAt
import PyProof.StrLoop
import PyProof.EnumMake
import PyProof.RangeFor
import KE.KRevIter
import PyProof.CompFree
import PyProof.ForAny
import PyProof.AutoSeq1
import PyProof.DictIter
import PyProof.StrLaws
import PyProof.TableCode
import Lean
import PySem.Challenge.RW_pb0355_01
set_option Elab.async false
set_option maxRecDepth 100000
set_option genSizeOf false
set_option genInjectivity false
set_option linter.all false
set_option tactic.hygienic false
set_option maxHeartbeats 1000000
section
namespace Mine
inductive Lf where
 | x | y | z | w
 | v (i:Nat)
 | n (k:Nat)
 | a (s t:Lf)
 | m (k:Nat) (t:Lf)
 | q (t:Lf) (k:Nat)
noncomputable def jR:List Nat→Nat→Nat
 | [],_=>0
 | a :: _,0=>a
 | _ :: l,i + 1=>jR l i
noncomputable def Lf.d (c:List Nat):Lf→Nat
 | x=>jR c 0
 | y=>jR c 1
 | z=>jR c 2
 | w=>jR c 3
 | v i=>jR c i
 | n k=>k
 | a s t=>s.d c + t.d c
 | m k t=>k * t.d c
 | q t k=>t.d c * k
noncomputable def gY:List Nat→List Nat→List Nat
 | [],q=>q
 | a :: p,[]=>a :: p
 | a :: p,b :: q=>(a + b) :: gY p q
noncomputable def nZ:List Nat→List Nat→Bool
 | [],_=>true
 | a :: p,[]=>Nat.beq a 0 && nZ p []
 | a :: p,b :: q=>Nat.ble a b && nZ p q
noncomputable def pZ:Nat→List Nat
 | 0=>[1]
 | i + 1=>0 :: pZ i
noncomputable def Lf.p:Lf→List Nat
 | x=>[0,1]
 | y=>[0,0,1]
 | z=>[0,0,0,1]
 | w=>[0,0,0,0,1]
 | v i=>0 :: pZ i
 | n k=>[k]
 | a s t=>gY s.p t.p
 | m k t=>t.p.map (k * ·)
 | q t k=>t.p.map (k * ·)
noncomputable def lev:List Nat→List Nat→Nat
 | _,[]=>0
 | [],_ :: _=>0
 | c :: l,a :: p=>a * c + lev l p
theorem oE:∀ (c p q:List Nat),lev c (gY p q) = lev c p + lev c q
 | c,[],q=>(Nat.zero_add (lev c q)).symm.trans (by cases c <;> rfl)
 | c,a :: p,[]=>by cases c <;> rfl
 | [],_ :: _,_ :: _=>rfl
 | c :: l,a :: p,b :: q=>by
  show (a + b) * c + lev l (gY p q) = a * c + lev l p + (b * c + lev l q)
  rw [oE l p q,Nat.add_mul,Nat.add_add_add_comm]
theorem zY:∀ (c p:List Nat) (k:Nat),lev c (p.map (k * ·)) = k * lev c p
 | [],[],_=>rfl
 | _ :: _,[],_=>rfl
 | [],_ :: _,_=>rfl
 | c :: l,a :: p,k=>by
  show k * a * c + lev l (p.map (k * ·)) = k * (a * c + lev l p)
  rw [zY l p k,Nat.mul_assoc,Nat.mul_add]
theorem iDa:∀ (c:List Nat) (i:Nat),lev c (pZ i) = jR c i
 | [],0=>rfl
 | [],_ + 1=>rfl
 | c :: l,0=>by show 1 * c + lev l [] = c; cases l <;> exact Nat.one_mul c
 | c :: l,i + 1=>by show 0 * c + lev l (pZ i) = jR l i; rw [Nat.zero_mul,Nat.zero_add]; exact iDa l i
theorem qJ:∀ (c p q:List Nat),nZ p q = true→lev c p ≤ lev c q
 | [],[],_,_=>Nat.zero_le _
 | _ :: _,[],_,_=>Nat.zero_le _
 | [],_ :: _,_,_=>Nat.zero_le _
 | c :: l,a :: p,[],h=>by
  obtain ⟨h1,h2⟩:=Bool.and_eq_true_iff.mp h
  have:=qJ l p [] h2
  show a * c + lev l p ≤ 0
  rw [Nat.eq_of_beq_eq_true h1,Nat.zero_mul,Nat.zero_add]
  cases l <;> exact this
 | c :: l,a :: p,b :: q,h=>by
  obtain ⟨h1,h2⟩:=Bool.and_eq_true_iff.mp h
  exact Nat.add_le_add (Nat.mul_le_mul_right c (Nat.le_of_ble_eq_true h1)) (qJ l p q h2)
theorem sH (c:List Nat) (i:Nat):lev (1 :: c) (0 :: pZ i) = jR c i:=by
 show 0 * 1 + lev c (pZ i) = jR c i
 rw [Nat.zero_mul,Nat.zero_add,iDa]
theorem jW (c:List Nat):∀ t:Lf,lev (1 :: c) t.p = t.d c
 | .x=>sH c 0
 | .y=>sH c 1
 | .z=>sH c 2
 | .w=>sH c 3
 | .v i=>sH c i
 | .n k=>by show k * 1 + lev c [] = k; cases c <;> exact Nat.mul_one k
 | .a s t=>by show lev _ (gY s.p t.p) = s.d c + t.d c; rw [oE,jW c s,jW c t]
 | .m k t=>by show lev _ (t.p.map (k * ·)) = k * t.d c; rw [zY,jW c t]
 | .q t k=>by show lev _ (t.p.map (k * ·)) = t.d c * k; rw [zY,jW c t,Nat.mul_comm]
noncomputable def tY (c:List Nat) (P:Prop):List (Lf × Lf)→Prop
 | []=>P
 | h :: hs=>h.1.d c ≤ h.2.d c→tY c P hs
noncomputable def lsL:List (Lf × Lf)→List Nat
 | []=>[]
 | h :: hs=>gY h.1.p (lsL hs)
noncomputable def lsR:List (Lf × Lf)→List Nat
 | []=>[]
 | h :: hs=>gY h.2.p (lsR hs)
theorem yW (c:List Nat) (P:Prop):∀ hs:List (Lf × Lf),(lev (1 :: c) (lsL hs) ≤ lev (1 :: c) (lsR hs)→P)→tY c P hs
 | [],k=>k (Nat.le_refl _)
 | h :: hs,k=>fun q=>yW c P hs fun r=>k (by
  show lev (1 :: c) (gY h.1.p (lsL hs)) ≤ lev (1 :: c) (gY h.2.p (lsR hs))
  rw [oE,oE,jW,jW]
  exact Nat.add_le_add q r)
theorem lin (c:List Nat) (l r:Lf) (hs:List (Lf × Lf)) (ok:nZ (gY l.p (lsR hs)) (gY r.p (lsL hs)) = true):tY c (l.d c ≤ r.d c) hs :=
 yW c _ hs fun k=>by
  have h:=qJ (1 :: c) _ _ ok
  rw [oE,oE,jW,jW] at h
  exact Nat.le_of_add_le_add_right (Nat.le_trans h (Nat.add_le_add_left k _))
theorem tE (c:List Nat) (l r:Lf) (ok:(nZ l.p r.p && nZ r.p l.p) = true):l.d c = r.d c:=by
 obtain ⟨h1,h2⟩:=Bool.and_eq_true_iff.mp ok
 have k1:=qJ (1 :: c) _ _ h1
 have k2:=qJ (1 :: c) _ _ h2
 rw [jW,jW] at k1 k2
 exact Nat.le_antisymm k1 k2
theorem rB (c:List Nat) (hs:List (Lf × Lf)) (ok:nZ (gY [1] (lsR hs)) (lsL hs) = true):tY c False hs :=
 yW c _ hs fun k=>by
  have h:=qJ (1 :: c) _ _ ok
  rw [oE] at h
  rw [show lev (1 :: c) [1] = 1 by cases c <;> rfl,Nat.add_comm] at h
  exact Nat.not_succ_le_self _ (Nat.le_trans h k)
theorem fX {a b:Nat} (h:(a:Int) < b):a + 1 ≤ b:=Int.ofNat_lt.mp h
theorem xQa {a b:Nat} (h:(a:Int) ≤ b):a ≤ b:=Int.ofNat_le.mp h
theorem oO {a b:Nat} (h:(a:Int) = b):a = b:=Int.ofNat.inj h
theorem dD {a b:Nat} (h:a + 1 ≤ b):(a:Int) < b:=Int.ofNat_lt.mpr h
theorem vX {a b:Nat} (h:a ≤ b):(a:Int) ≤ b:=Int.ofNat_le.mpr h
theorem qN {a b:Nat} (h:a = b):(a:Int) = b:=congrArg Int.ofNat h
theorem zA_ {c:Int}:c ≤ c + 1:=Int.le_add_of_nonneg_right (by decide)
theorem zB_ {c:Int}:c < c + 1:=Int.lt_succ c
theorem zC_ {c:Int} (h:7 ≤ c):8 ≤ c + 1:=Int.add_le_add_right h 1
theorem zD_ {b c:Int} (h:7 ≤ b) (k:b < c):8 ≤ c:=Int.le_trans (zC_ h) k
theorem zE_ {j b:Int} (h:j < b):1 + j ≤ b:=by rw [Int.add_comm]; exact h
theorem zF_ {a:Int} (q:¬ 0 ≤ a):0 ≤ -a:=Int.neg_nonneg_of_nonpos (Int.le_of_lt (Int.not_le.mp q))
theorem znz {n:Nat}:¬ ((n + 1:Nat):Int) = 0:=fun h=>Nat.succ_ne_zero n (Int.ofNat.inj h)
theorem dWa {l:Int} (h:1 ≤ l∧l ≤ 9):¬ l < 0:=Int.not_lt.mpr (Int.le_trans (by decide) h.1)
theorem rD {l b:Int} (h:1 ≤ l∧l ≤ 9) (k:9 < b):0 ≤ l∧l < b:=⟨Int.le_trans (by decide) h.1,Int.lt_of_le_of_lt h.2 k⟩
theorem zG_ {k:Int} {n:Nat} (h:k < n) (l:n ≤ 2000):k < 2 ^ 63:=Int.lt_trans h (Int.lt_of_le_of_lt (Int.ofNat_le.mpr l) (by decide))
theorem zH_ {n:Nat} (h:0 < n):-(n:Int) ≤ -1:=Int.neg_le_neg (Int.ofNat_le.mpr h)
theorem d4a:∀ i,i < 4→¬ i = 0→¬ i = 1→i = 2 ∨ i = 3:=by decide
theorem d4b:∀ i,i < 4→¬ i = 0→¬ i = 3→i = 1 ∨ i = 2:=by decide
theorem d5:∀ i,i < 6→5 ≤ i + 2→i = 3 ∨ i = 4 ∨ i = 5:=by decide
theorem arity {v p d:Nat} (h:v ≤ p) (k:p ≤ v + d):p = v + (d - (d - (p - v))):=by rw [Nat.sub_sub_self (Nat.sub_le_iff_le_add'.mpr k),Nat.add_sub_of_le h]
theorem mU {α:Type} {l:List α} {n:Nat} {x:α} (h:l.length = n):(l ++ [x])[n]? = some x:=by rw [← h,List.getElem?_concat_length]
theorem toA {α:Type} {l:List α} {i:Nat} {o:Option α} (h:l[i]? = o):l.toArray[i]? = o:=by rw [List.getElem?_toArray]; exact h
theorem dK (x y:Nat):x ≤ x - y + y:=Nat.sub_le_iff_le_add.mp (Nat.le_refl _)
theorem vPa (x y:Nat):x ≤ y + (x - y):=by rw [Nat.add_comm]; exact dK x y
theorem eN {x y:Nat} (h:y ≤ x):x - y + y ≤ x:=Nat.le_of_eq (Nat.sub_add_cancel h)
theorem vQ {x b:Int} {n:Nat} (h:0 ≤ x) (k:x < b) (l:b ≤ n):x.natAbs < n:=Int.ofNat_lt.mp (by rw [Int.natAbs_of_nonneg h]; exact Int.lt_of_lt_of_le k l)
theorem tnp {n:Nat} (h:0 < n):(-1 + (n:Int)).toNat = n - 1:=by
 cases n with
 | zero=>cases h
 | succ m=>rw [Int.natCast_succ,Int.add_comm,Int.add_neg_cancel_right]; rfl
theorem zI_ {x:Int} (h:x.natAbs < 9223372036854775808):-2 ^ 64 < x∧x < 2 ^ 64 :=
 have k:((x.natAbs:Nat):Int) < 2 ^ 64:=Int.lt_trans (Int.ofNat_lt.mpr h) (by decide)
 ⟨Int.neg_lt_of_neg_lt (Int.lt_of_le_of_lt (by rw [← Int.natAbs_neg]; exact Int.le_natAbs) k),Int.lt_of_le_of_lt Int.le_natAbs k⟩
theorem zJ_ {n:Nat} (h:0 < n):0 ≤ -1 + (n:Int)∧-1 + (n:Int) < n:=by
 cases n with
 | zero=>cases h
 | succ m=>rw [Int.natCast_succ,Int.add_comm,Int.add_neg_cancel_right]; exact ⟨Int.natCast_nonneg _,Int.lt_succ _⟩
theorem zK_ {k:Int} {n j:Nat} (h:(0 ≤ k∧k < n∧j = k.toNat) ∨ (k = -1∧0 < n∧j = n - 1)) (l:n ≤ 2000):-2 ^ 63 ≤ k∧k < 2 ^ 63:=by
 rcases h with ⟨a,b,_⟩ | ⟨a,_⟩
 ·exact ⟨Int.le_trans (by decide) a,zG_ b l⟩
 ·rw [a]; decide
theorem zL_ {k:Int} (h:0 ≤ k) (l:k < 100000):¬ k < -2 ^ 63∧¬ k ≥ 2 ^ 63:=⟨fun q=>absurd (Int.le_trans h (Int.le_of_lt q)) (by decide),fun q=>absurd (Int.lt_of_le_of_lt q l) (by decide)⟩
theorem zM_ {n i:Nat} (h:i < n):((n:Int) - 1 - (i:Int)) = ((n - 1 - i:Nat):Int):=by
 rw [Int.ofNat_sub (Nat.le_sub_one_of_lt h),Int.ofNat_sub (Nat.lt_of_le_of_lt (Nat.zero_le i) h)]; rfl
theorem zN_ {n i:Nat} (h:i ≤ n) (k:n ≤ i):((n:Int) - 1 - (i:Int)) = -1:=by
 cases Nat.le_antisymm h k
 rw [Int.sub_sub,Int.add_comm,← Int.sub_sub,Int.sub_self]; rfl
theorem zO_ {n:Int} {i:Nat} (h:i < n.toNat):((i + 1:Nat):Int) ≤ max n 0:=by
 rw [← Int.ofNat_toNat]; exact Int.ofNat_le.mpr h
theorem zP_ {n:Int} {i:Nat} (h:i < n.toNat):0 < max n 0 - (i:Int):=Int.sub_pos_of_lt (zO_ h)
theorem zQ_ {n:Int} {i:Nat} (h:n.toNat ≤ i):max n 0 - (i:Int) ≤ 0:=by
 rw [← Int.ofNat_toNat]; exact Int.sub_nonpos_of_le (Int.ofNat_le.mpr h)
theorem zR_ {m i:Int}:m - i - 1 = m - (i + 1):=by rw [Int.sub_sub]
theorem zS_ {m:Int}:(if 0 < m then m - 0 else 0) = max m 0 - ((0:Nat):Int):=by
 show _ = max m 0 - 0
 rw [Int.sub_zero,Int.sub_zero]
 split
 ·exact (Int.max_eq_left (Int.le_of_lt (by assumption))).symm
 ·exact (Int.max_eq_right (Int.not_lt.mp (by assumption))).symm
theorem zT_ {m:Int} (h:0 ≤ m∧m < 100003):0 ≤ m * 7∧m * 7 < 2147483648:=⟨Int.mul_nonneg h.1 (by decide),Int.lt_trans (Int.mul_lt_mul_of_pos_right h.2 (by decide)) (by decide)⟩
theorem zU_ {j n:Nat} (h:j < n) (l:n ≤ 2000):(j:Int) < 2 ^ 63 - 1:=Int.lt_trans (Int.ofNat_lt.mpr (Nat.lt_of_lt_of_le h l)) (by decide)
end Mine
end
section
namespace Mine
open PySem (Expr Stmt Str Operator CmpOp BoolOp UnaryOp Const Scope NameKind)
inductive V where
 | none | bool (b:Bool) | int (i:Int) | str (s:Str) | ref (a:Nat)
inductive Cls where
 | ty | ob | ifc | nms | tys
inductive O where
 | list (vs:List V)
 | tuple (vs:List V)
 | dict (es:List (Str × V))
 | idict (es:List (Int × V))
 | tdict (ks:List (List Str))
 | inst (c:Cls) (fs:List (Nat × V))
noncomputable abbrev Heap:=List O
noncomputable abbrev Env:=List (Option V)
inductive F where
 | pick | ltext | lgrouped | lstructure | lsignature | lmade | lconstant | lnamed | law
 | whole_text | string_text | set_text | truth_text | typed_constant | constant_text
 | basic_names | is_plain | free_name | type_text | structure_text | marked_name | grouped | is_variable | record_text | signature_text | defines | declared_text
 | section_ | interface_names | object_rows | definition_text
 | initTy | initOb | initIfc | initNms | initTys | new | string | enter | is_taken | module_name | name_of
inductive Blt where
 | len | str | list | sum
inductive BM where
 | join | startswith | isalpha | append | index | get | pop
mutual
inductive IE where
 | dead
 | const (v:V)
 | loc (i:Nat)
 | bin (op:Operator) (a b:IE)
 | neg (a:IE)
 | not (a:IE)
 | and (a b:IE)
 | or (a b:IE)
 | ite (t:IT) (a b:IE)
 | cmp (op:CmpOp) (a b:IE)
 | call (f:F) (as:IEs)
 | make (c:Cls) (f:F) (as:IEs)
 | blt (b:Blt) (as:IEs)
 | bmeth (m:BM) (o:IE) (as:IEs)
 | ometh (f:F) (c:Cls) (o:IE) (as:IEs)
 | attr (o:IE) (x:Nat)
 | sub (o i:IE)
 | tail (o lo:IE)
 | list (as:IEs)
 | tuple (as:IEs)
 | dict (ks:List Str) (as:IEs)
 | comp (t:List Nat) (u:Bool) (it:II) (ifs:ITs) (elt:IE)
inductive IEs where
 | nil
 | cons (e:IE) (r:IEs)
inductive IT where
 | not (a:IT)
 | and (a b:IT)
 | or (a b:IT)
 | val (e:IE)
inductive ITs where
 | nil
 | cons (e:IT) (r:ITs)
inductive II where
 | range (e:IE)
 | rev (e:IE)
 | of (e:IE)
end
mutual
inductive IS where
 | setl (i:Nat) (e:IE)
 | seta (o:IE) (x:Nat) (e:IE)
 | seti (o i e:IE)
 | augl (i:Nat) (e:IE)
 | auga (o:IE) (x:Nat) (e:IE)
 | expr (e:IE)
 | ite (t:IT) (a b:ISs)
 | ret (e:IE)
 | cont
 | for (t:List Nat) (u:Bool) (it:II) (b:ISs)
 | while (t:IT) (b:ISs)
 | dfind (i a t h:Nat)
 | dall (i a h:Nat)
inductive ISs where
 | nil
 | cons (s:IS) (r:ISs)
end
noncomputable abbrev aU:=F→List V→Heap→Option (V × Heap)
noncomputable def look {K:Type} [DecidableEq K] (x:K):List (K × V)→Option V
 | []=>.none
 | (k,v) :: r=>if k = x then some v else look x r
noncomputable def put {K:Type} [DecidableEq K] (x:K) (v:V):List (K × V)→List (K × V)
 | []=>[(x,v)]
 | (k,u) :: r=>if k = x then (k,v) :: r else (k,u) :: put x v r
theorem mH {K:Type} [DecidableEq K] {x k:K} {v:V} {r:List (K × V)}:look x ((k,v) :: r) = if k = x then some v else look x r:=rfl
theorem jQ {K:Type} [DecidableEq K] {x k:K} {v u:V} {r:List (K × V)}:put x v ((k,u) :: r) = if k = x then (k,v) :: r else (k,u) :: put x v r:=rfl
noncomputable def bnd {α β:Type} (m:Option (α × Heap)) (f:α→Heap→Option β):Option β :=
 match m with
 | some p=>f p.1 p.2
 | .none=>.none
noncomputable def cD {α:Type} (o:Option α) (H:Heap):Option (α × Heap):=match o with
 | some a=>some (a,H)
 | .none=>.none
noncomputable def aP {α:Type} (b:Bool) (x:Option α):Option α:=match b with
 | true=>x
 | false=>.none
noncomputable def lim:Nat:=16777216
noncomputable def small (a:Int):Bool:=decide (a.natAbs < 9223372036854775808)
noncomputable def asInt:V→Option Int
 | .int i=>some i
 | _=>.none
noncomputable def asStr:V→Option Str
 | .str s=>some s
 | _=>.none
noncomputable def lH:V→Option Bool
 | .bool b=>some b
 | _=>.none
noncomputable def eU:V→Option Nat
 | .ref a=>some a
 | _=>.none
noncomputable def isNone:V→Bool
 | .none=>true
 | _=>false
noncomputable def cN:Option O→Option (List V)
 | some (.list vs)=>some vs
 | _=>.none
noncomputable def jG:Option O→Option (List V)
 | some (.tuple vs)=>some vs
 | _=>.none
noncomputable def iB:Option O→Option (List (Str × V))
 | some (.dict es)=>some es
 | _=>.none
noncomputable def listAt (H:Heap) (v:V):Option (List V):=(eU v).bind fun a=>cN H[a]?
noncomputable def oG (H:Heap) (v:V):Option (List V):=(eU v).bind fun a=>jG H[a]?
noncomputable def dictAt (H:Heap) (v:V):Option (List (Str × V)):=(eU v).bind fun a=>iB H[a]?
noncomputable def fC (vs:List V) (H:Heap):Option (V × Heap):=aP (decide (vs.length ≤ 1000)) (some (.ref H.length,H ++ [.list vs]))
noncomputable def rO (vs:List V) (H:Heap):Option (V × Heap):=aP (decide (vs.length ≤ 1000)) (some (.ref H.length,H ++ [.tuple vs]))
noncomputable def uX (ks:List Str) (us:List V) (H:Heap):Option (V × Heap) :=
 aP (decide (ks.length = us.length∧ks.length ≤ 15)) (some (.ref H.length,H ++ [.dict ((ks.zip us).foldl (fun d e=>put e.1 e.2 d) [])]))
noncomputable def intOp:Operator→Int→Int→Option Int
 | .Add,x,y=>some (x + y)
 | .Sub,x,y=>some (x - y)
 | .Mult,x,y=>aP (small x && small y) (some (x * y))
 | .Mod,x,y=>aP (decide (0 < y)) (some (Int.fmod x y))
 | .FloorDiv,x,y=>aP (decide (0 < y∧y < 1073741824)) (some (Int.fdiv x y))
 | .Pow,x,y=>aP (decide (x = 2∧0 ≤ y∧y < 62)) (some (2 ^ y.toNat))
 | .RShift,x,y=>aP (decide (0 ≤ x∧x < 9223372036854775808∧0 ≤ y∧y < 62)) (some (Int.fdiv x (2 ^ y.toNat)))
 | .BitAnd,x,y=>aP (decide (0 ≤ x∧x < 9223372036854775808∧y = 1)) (some (Int.fmod x 2))
 | _,_,_=>.none
noncomputable def eKa:Operator→Bool
 | .Add=>true
 | _=>false
noncomputable def zO (a b:V) (H:Heap):Option (V × Heap):=match a with
 | .str x=>(asStr b).bind fun y=>aP (decide (x.length + y.length ≤ lim)) (some (.str (x ++ y),H))
 | .ref x=>(cN H[x]?).bind fun vs=>(listAt H b).bind fun us=>fC (vs ++ us) H
 | _=>.none
noncomputable def iH (op:Operator) (a b:V) (H:Heap):Option (V × Heap):=match a with
 | .int x=>(asInt b).bind fun y=>(intOp op x y).bind fun z=>some (.int z,H)
 | a=>aP (eKa op) (zO a b H)
noncomputable def qD:V→Bool
 | .str _=>true
 | _=>false
noncomputable def sO:V→Bool
 | .int _=>true
 | _=>false
noncomputable def intOf:V→Int
 | .int i=>i
 | _=>0
noncomputable def isS (s:Str):V→Bool
 | .str t=>decide (t = s)
 | _=>false
noncomputable def isI (s:Int):V→Bool
 | .int t=>decide (t = s)
 | _=>false
noncomputable def inS (s:Str):Option O→Option Bool
 | some (.dict es)=>some (look s es).isSome
 | some (.list vs)=>aP (vs.all qD) (some (vs.any (isS s)))
 | some (.tuple vs)=>aP (vs.all qD) (some (vs.any (isS s)))
 | _=>.none
noncomputable def inI (i:Int):Option O→Option Bool
 | some (.idict es)=>some (look i es).isSome
 | some (.dict es)=>aP es.isEmpty (some false)
 | some (.list vs)=>aP (vs.all sO) (some (vs.any (isI i)))
 | _=>.none
noncomputable def isIn (x:V) (r:V) (H:Heap):Option Bool:=(eU r).bind fun a=>match x with
 | .str s=>inS s H[a]?
 | .int i=>inI i H[a]?
 | _=>.none
noncomputable def eqV (a b:V) (H:Heap):Option Bool:=match a with
 | .int x=>(asInt b).map fun y=>decide (x = y)
 | .str x=>(asStr b).map fun y=>decide (x = y)
 | .bool x=>(lH b).map fun y=>x == y
 | .ref x=>(cN H[x]?).bind fun vs=>(listAt H b).bind fun us=>aP us.isEmpty (some vs.isEmpty)
 | .none=>.none
noncomputable def rY (p:Int→Int→Bool) (a b:V):Option Bool:=(asInt a).bind fun x=>(asInt b).map fun y=>p x y
noncomputable def yP (b a:V):Option Bool:=aP (isNone b) (some (isNone a))
noncomputable def lL (op:CmpOp) (a b:V) (H:Heap):Option Bool :=
 match op with
 | .Eq=>eqV a b H
 | .NotEq=>(eqV a b H).map (!·)
 | .Is=>yP b a
 | .IsNot=>(yP b a).map (!·)
 | .In=>isIn a b H
 | .NotIn=>(isIn a b H).map (!·)
 | .Lt=>rY (fun x y=>decide (x < y)) a b
 | .LtE=>rY (fun x y=>decide (x ≤ y)) a b
 | .Gt=>rY (fun x y=>decide (y < x)) a b
 | .GtE=>rY (fun x y=>decide (y ≤ x)) a b
noncomputable def place (i:Int) (n:Nat):Option Nat :=
 if 0 ≤ i∧i < n then some i.toNat else if i = -1∧0 < n then some (n - 1) else .none
noncomputable def qL (k:Int):Option O→Option V
 | some (.list vs)=>(place k vs.length).bind fun j=>vs[j]?
 | some (.tuple vs)=>(place k vs.length).bind fun j=>vs[j]?
 | some (.idict es)=>look k es
 | _=>.none
noncomputable def subV (o i:V) (H:Heap):Option V:=match i with
 | .int k=>match o with
  | .ref a=>qL k H[a]?
  | .str s=>aP (decide (0 ≤ k∧k < s.length∧k < 100000)) ((s.cps[k.toNat]?).map fun c=>.str ⟨#[c]⟩)
  | _=>.none
 | .str s=>(dictAt H o).bind fun es=>look s es
 | _=>.none
noncomputable def oY:Option O→Option (Cls × List (Nat × V))
 | some (.inst c fs)=>some (c,fs)
 | _=>.none
noncomputable def mW (H:Heap) (v:V):Option (Cls × List (Nat × V)):=(eU v).bind fun a=>oY H[a]?
noncomputable def eO (o:V) (x:Nat) (H:Heap):Option V:=(mW H o).bind fun p=>look x p.2
noncomputable def kI (o:V) (x:Nat) (v:V) (H:Heap):Option Heap:=(eU o).bind fun a=>(oY H[a]?).bind fun p=>aP (decide (p.2.length ≤ 100)) (some (H.set a (.inst p.1 (put x v p.2))))
noncomputable def oK:List V→Option (Str × Str)
 | [a,b]=>(asStr a).bind fun x=>(asStr b).map fun y=>(x,y)
 | _=>.none
noncomputable def iY (i v:V) (H:Heap):Option O→Option O
 | some (.list vs)=>(asInt i).bind fun k=>(place k vs.length).map fun j=>.list (vs.set j v)
 | some (.idict es)=>(asInt i).bind fun k=>aP (decide (es.length ≤ 1000)) (some (.idict (put k v es)))
 | some (.dict es)=>match i with
  | .str s=>aP (decide (es.length ≤ 1000)) (some (.dict (put s v es)))
  | .int k=>aP es.isEmpty (some (.idict [(k,v)]))
  | i=>aP es.isEmpty ((oG H i).bind fun us=>(oK us).map fun p=>.tdict [[p.1,p.2]])
 | some (.tdict ks)=>aP (decide (ks.length ≤ 1000)) ((oG H i).bind fun us=>(oK us).map fun p=>.tdict (if [p.1,p.2] ∈ ks then ks else ks ++ [[p.1,p.2]]))
 | _=>.none
noncomputable def jP (o i v:V) (H:Heap):Option Heap:=(eU o).bind fun a=>(iY i v H H[a]?).map fun o'=>H.set a o'
noncomputable def oH {α:Type} (vs:List V) (f:V→Option α):Option α:=match vs with
 | [x]=>f x
 | _=>.none
noncomputable def aXa {α:Type} (vs:List V) (f:V→V→Option α):Option α:=match vs with
 | [x,y]=>f x y
 | _=>.none
noncomputable def lenV (x:V) (H:Heap):Option (V × Heap):=match x with
 | .str s=>aP (decide (s.length ≤ lim)) (some (.int s.length,H))
 | x=>(listAt H x).map fun us=>(.int us.length,H)
noncomputable def bYa (x:V) (H:Heap):Option (V × Heap):=match x with
 | .int i=>aP (decide (0 ≤ i∧i < 10000000000)) (some (.str (toString i),H))
 | .str s=>some (.str s,H)
 | _=>.none
noncomputable def lW (b:Blt) (vs:List V) (H:Heap):Option (V × Heap):=oH vs fun x=>match b with
 | .len=>lenV x H
 | .str=>bYa x H
 | .list=>(listAt H x).bind fun us=>fC us H
 | .sum=>(listAt H x).bind fun us=>aP (us.all sO) (some (.int ((us.map intOf).sum),H))
noncomputable def idxOf (s:Str):List V→Option Nat
 | []=>.none
 | v :: r=>if isS s v = true then some 0 else (idxOf s r).map (· + 1)
theorem qLa {s:Str} {v:V} {r:List V}:idxOf s (v :: r) = if isS s v = true then some 0 else (idxOf s r).map (· + 1):=rfl
noncomputable def strsOf:List V→Option (List Str)
 | []=>some []
 | v :: r=>(asStr v).bind fun s=>(strsOf r).map (s :: ·)
noncomputable def jY (x:Str) (es:List (Str × V)):List (Str × V):=es.filter fun e=>!decide (e.1 = x)
noncomputable def hGa (s:Str) (us:List V) (H:Heap):Option (V × Heap) :=
 (strsOf us).bind fun ys=>aP (decide ((ys.map (·.length)).sum + ys.length * s.length ≤ lim)) (some (.str (Str.join s ys),H))
noncomputable def eXa (c:Nat):Bool:=(decide (65 ≤ c) && decide (c ≤ 90)) || (decide (97 ≤ c) && decide (c ≤ 122))
noncomputable def dI (m:BM) (o:V) (vs:List V) (H:Heap):Option (V × Heap):=match m with
 | .join=>(asStr o).bind fun s=>oH vs fun x=>(listAt H x).bind fun us=>hGa s us H
 | .startswith=>(asStr o).bind fun s=>oH vs fun x=>(asStr x).bind fun t=>aP (decide (t.length = 1)) (some (.bool (decide (s.cps[0]? = t.cps[0]?)),H))
 | .isalpha=>(asStr o).bind fun s=>aP (vs.isEmpty && decide (s.length = 1∧s.cps[0]?.getD 200 < 128)) (some (.bool (eXa (s.cps[0]?.getD 200)),H))
 | .append=>(eU o).bind fun a=>(cN H[a]?).bind fun us=>oH vs fun v=>aP (decide (us.length ≤ 1000)) (some (.none,H.set a (.list (us ++ [v]))))
 | .index=>(listAt H o).bind fun us=>oH vs fun x=>(asStr x).bind fun t=>aP (us.all qD) ((idxOf t us).map fun (i:Nat)=>(.int (i:Int),H))
 | .get=>(dictAt H o).bind fun es=>aXa vs fun k d=>(asStr k).map fun k=>((look k es).getD d,H)
 | .pop=>(eU o).bind fun a=>(iB H[a]?).bind fun es=>aXa vs fun k d=>(asStr k).bind fun k=>aP (decide (es.length ≤ 1000)) (some ((look k es).getD d,H.set a (.dict (jY k es))))
noncomputable def qC (m:BM) (x:V) (H:Heap):Bool:=match m with
 | .join | .startswith | .isalpha=>(asStr x).isSome
 | .append | .index=>(listAt H x).isSome
 | .get | .pop=>(dictAt H x).isSome
noncomputable def oW (c:Cls) (x:V) (H:Heap):Bool:=match mW H x with
 | some p=>match p.1,c with
  | .ty,.ty | .ob,.ob | .ifc,.ifc | .nms,.nms | .tys,.tys=>true
  | _,_=>false
 | .none=>false
inductive Gd where
 | no | list (a:Nat) (vs:List V) | tup (a:Nat) (vs:List V)
structure It where
 items:List V
 guard:Gd
noncomputable def pL:V→V→Bool
 | .none,.none=>true
 | .bool a,.bool b=>a == b
 | .int a,.int b=>decide (a = b)
 | .str a,.str b=>decide (a = b)
 | .ref a,.ref b=>decide (a = b)
 | _,_=>false
noncomputable def nJ:List V→List V→Bool
 | [],[]=>true
 | a :: r,b :: t=>pL a b && nJ r t
 | _,_=>false
noncomputable def okL (vs:List V):Option (List V)→Bool
 | some us=>nJ us vs
 | .none=>false
noncomputable def It.ok (it:It) (H:Heap):Bool:=match it.guard with
 | .no=>true
 | .list a vs=>okL vs (cN H[a]?)
 | .tup a vs=>okL vs (jG H[a]?)
noncomputable def itO (a:Nat):Option O→Option It
 | some (.list vs)=>some ⟨vs,.list a vs⟩
 | some (.tuple vs)=>some ⟨vs,.tup a vs⟩
 | _=>.none
noncomputable def mX (v:V) (H:Heap):Option It:=match v with
 | .ref a=>itO a H[a]?
 | .str s=>some ⟨s.cps.toList.map fun c=>.str ⟨#[c]⟩,.no⟩
 | _=>.none
noncomputable def vI (v:V):Option It:=(asInt v).bind fun n=>aP (decide (-1000 ≤ n∧n ≤ 1000)) (some ⟨(List.range n.toNat).map fun i=>.int (i:Nat),.no⟩)
noncomputable def vP (v:V) (H:Heap):Option It:=(eU v).bind fun a=>(cN H[a]?).map fun vs=>⟨vs.reverse,.list a vs⟩
noncomputable def bB (i:Nat) (v:V) (env:Env):Env:=env.set i (some v)
noncomputable def jA:List Nat→List V→Env→Option Env
 | [],vs,e=>aP vs.isEmpty (some e)
 | i :: is,vs,e=>match vs with
  | v :: vs=>jA is vs (bB i v e)
  | []=>.none
noncomputable def dX (t:List Nat) (u:Bool) (v:V) (env:Env) (H:Heap):Option Env:=match u with
 | false=>jA t [v] env
 | true=>(oG H v).bind fun vs=>jA t vs env
noncomputable def fY (it:It) (step:V→Heap→Option (Option V × Heap)):List V→Heap→Option (List V × Heap)
 | [],H=>aP (it.ok H) (some ([],H))
 | v :: r,H=>aP (it.ok H) (bnd (step v H) fun x H1=>bnd (fY it step r H1) fun xs H2=>some (x.toList ++ xs,H2))
noncomputable def unI (a:V) (H:Heap):Option (V × Heap):=(asInt a).map fun i=>(.int (-i),H)
noncomputable def notI (a:V) (H:Heap):Option (V × Heap):=(lH a).map fun b=>(.bool (!b),H)
noncomputable def uC (o i:V) (H:Heap):Option (V × Heap):=(listAt H o).bind fun vs=>(asInt i).bind fun k=>aP (decide (0 ≤ k∧k < 1000)) (fC (vs.drop k.toNat) H)
noncomputable def gUa (cf:aU) (c:Cls) (f:F) (vs:List V) (H:Heap):Option (V × Heap) :=
 aP (!H.isEmpty) (bnd (cf f (.ref H.length :: vs) (H ++ [.inst c []])) fun r H1=>aP (isNone r) (some (.ref H.length,H1)))
inductive Fl where
 | next | cont | ret (v:V)
noncomputable abbrev ExR:=Option ((Fl × Env) × Heap)
noncomputable def jV (bind:V→Heap→Option Env) (ifs:Env→Heap→Option (Bool × Heap)) (elt:Env→Heap→Option (V × Heap)) (v:V) (H:Heap):Option (Option V × Heap) :=
 bnd (cD (bind v H) H) fun env1 H1=>bnd (ifs env1 H1) fun ok H2=>match ok with
  | true=>bnd (elt env1 H2) fun x H3=>some (some x,H3)
  | false=>some (.none,H2)
noncomputable def lV (bind:V→Env→Heap→Option Env) (body:Env→Heap→Option ((Fl × Env) × Heap)) (v:V) (env:Env) (H:Heap):Option ((Fl × Env) × Heap) :=
 bnd (cD (bind v env H) H) fun env1 H1=>body env1 H1
noncomputable def ifB {α:Type} (b:Bool) (x y:α):α:=match b with
 | true=>x
 | false=>y
mutual
noncomputable def aH (cf:aU) (env:Env):IE→Heap→Option (V × Heap)
 | .dead,_=>.none
 | .const v,H=>some (v,H)
 | .loc i,H=>cD (env[i]?).join H
 | .bin op a b,H=>bnd (aH cf env a H) fun x H1=>bnd (aH cf env b H1) fun y H2=>iH op x y H2
 | .neg a,H=>bnd (aH cf env a H) unI
 | .not a,H=>bnd (aH cf env a H) notI
 | .and a b,H=>bnd (aH cf env a H) fun x H1=>(lH x).bind fun t=>ifB t (aH cf env b H1) (some (x,H1))
 | .or a b,H=>bnd (aH cf env a H) fun x H1=>(lH x).bind fun t=>ifB t (some (x,H1)) (aH cf env b H1)
 | .ite t a b,H=>bnd (bZ cf env t H) fun c H1=>ifB c (aH cf env a H1) (aH cf env b H1)
 | .cmp op a b,H=>bnd (aH cf env a H) fun x H1=>bnd (aH cf env b H1) fun y H2=>(lL op x y H2).map fun c=>(.bool c,H2)
 | .call f as,H=>bnd (bN cf env as H) (cf f)
 | .make c f as,H=>bnd (bN cf env as H) (gUa cf c f)
 | .blt b as,H=>bnd (bN cf env as H) (lW b)
 | .bmeth m o as,H=>bnd (aH cf env o H) fun x H1=>aP (qC m x H1) (bnd (bN cf env as H1) (dI m x))
 | .ometh f c o as,H=>bnd (aH cf env o H) fun x H1=>aP (oW c x H1) (bnd (bN cf env as H1) fun vs H2=>cf f (x :: vs) H2)
 | .attr o x,H=>bnd (aH cf env o H) fun v H1=>cD (eO v x H1) H1
 | .sub o i,H=>bnd (aH cf env o H) fun x H1=>bnd (aH cf env i H1) fun y H2=>cD (subV x y H2) H2
 | .tail o i,H=>bnd (aH cf env o H) fun x H1=>bnd (aH cf env i H1) fun y H2=>uC x y H2
 | .list as,H=>bnd (bN cf env as H) fC
 | .tuple as,H=>bnd (bN cf env as H) rO
 | .dict ks as,H=>bnd (bN cf env as H) (uX ks)
 | .comp t u i ifs elt,H=>bnd (fJ cf env i H) fun it H1 =>
   bnd (fY it (jV (fun v H=>dX t u v env H) (fun env1 H=>dU cf env1 ifs H) (fun env1 H=>aH cf env1 elt H)) it.items H1) fC
noncomputable def bN (cf:aU) (env:Env):IEs→Heap→Option (List V × Heap)
 | .nil,H=>some ([],H)
 | .cons e r,H=>bnd (aH cf env e H) fun v H1=>bnd (bN cf env r H1) fun vs H2=>some (v :: vs,H2)
noncomputable def bZ (cf:aU) (env:Env):IT→Heap→Option (Bool × Heap)
 | .not a,H=>bnd (bZ cf env a H) fun b H1=>some (!b,H1)
 | .and a b,H=>bnd (bZ cf env a H) fun t H1=>ifB t (bZ cf env b H1) (some (false,H1))
 | .or a b,H=>bnd (bZ cf env a H) fun t H1=>ifB t (some (true,H1)) (bZ cf env b H1)
 | .val e,H=>bnd (aH cf env e H) fun v H1=>cD (lH v) H1
noncomputable def dU (cf:aU) (env:Env):ITs→Heap→Option (Bool × Heap)
 | .nil,H=>some (true,H)
 | .cons e r,H=>bnd (bZ cf env e H) fun t H1=>ifB t (dU cf env r H1) (some (false,H1))
noncomputable def fJ (cf:aU) (env:Env):II→Heap→Option (It × Heap)
 | .range e,H=>bnd (aH cf env e H) fun v H1=>cD (vI v) H1
 | .rev e,H=>bnd (aH cf env e H) fun v H1=>cD (vP v H1) H1
 | .of e,H=>bnd (aH cf env e H) fun v H1=>cD (mX v H1) H1
end
noncomputable def dY (x:Fl × Env) (H:Heap) (go:Env→Heap→ExR):ExR:=match x.1 with
 | .ret _=>some (x,H)
 | _=>go x.2 H
noncomputable def gQ (it:It) (step:V→Env→Heap→ExR):List V→Env→Heap→ExR
 | [],env,H=>aP (it.ok H) (some ((.next,env),H))
 | v :: r,env,H=>aP (it.ok H) (bnd (step v env H) fun x H1=>dY x H1 (gQ it step r))
noncomputable def mJ (test:Env→Heap→Option (Bool × Heap)) (body:Env→Heap→ExR):Nat→Env→Heap→ExR
 | 0,_,_=>.none
 | n + 1,env,H=>bnd (test env H) fun b H1=>ifB b (bnd (body env H1) fun x H2=>dY x H2 (mJ test body n)) (some ((.next,env),H1))
noncomputable def gH (old v:V) (H:Heap):Option (V × Heap):=match old with
 | .int a=>(asInt v).map fun b=>(.int (a + b),H)
 | .ref a=>(cN H[a]?).bind fun us=>(eU v).bind fun b=>(cN H[b]?).bind fun vs=>aP (decide (us.length + vs.length ≤ 1000∧a ≠ b)) (some (.ref a,H.set a (.list (us ++ vs))))
 | _=>.none
noncomputable def lG (env:Env) (H:Heap) (i:Nat):Option (Nat × List (Str × V)):=(env[i]?).join.bind fun v=>(eU v).bind fun a=>(iB H[a]?).map fun es=>(a,es)
noncomputable def vN (i:Nat) (k:Int) (hs:List (Str × V)):List (Str × V)→Env→Option (Fl × Env)
 | [],env=>some (.next,env)
 | p :: r,env=>(asInt p.2).bind fun j=>if j = k∧look p.1 hs = .none then some (.ret (.str p.1),bB i (.str p.1) env) else vN i k hs r (bB i (.str p.1) env)
noncomputable def qY (i a t h:Nat) (env:Env) (H:Heap):Option (Fl × Env):=(lG env H a).bind fun p=>(env[t]?).join.bind fun o=>(lG env H h).bind fun q=>(eO o 0 H).bind fun n=>(asInt n).bind fun k=>vN i k q.2 p.2 env
noncomputable def nR (i:Nat):List (Str × V)→Env→Env
 | [],env=>env
 | p :: r,env=>nR i r (bB i (.str p.1) env)
noncomputable def oZ:List (Str × V)→List (Str × V)→List (Str × V)
 | [],hs=>hs
 | p :: r,hs=>oZ r (put p.1 (.bool true) hs)
noncomputable def vA (i a h:Nat) (env:Env) (H:Heap):ExR:=(lG env H a).bind fun p=>(lG env H h).bind fun q =>
 aP (decide (p.1 ≠ q.1∧p.2.length + q.2.length ≤ 1000)) (some ((.next,nR i p.2 env),H.set q.1 (.dict (oZ p.2 q.2))))
mutual
noncomputable def fD (cf:aU):IS→Env→Heap→ExR
 | .setl i e,env,H=>bnd (aH cf env e H) fun v H1=>some ((.next,bB i v env),H1)
 | .seta o x e,env,H=>bnd (aH cf env e H) fun v H1=>bnd (aH cf env o H1) fun ov H2=>(kI ov x v H2).map fun H3=>((.next,env),H3)
 | .seti o i e,env,H=>bnd (aH cf env e H) fun v H1=>bnd (aH cf env o H1) fun ov H2=>bnd (aH cf env i H2) fun iv H3=>(jP ov iv v H3).map fun H4=>((.next,env),H4)
 | .augl i e,env,H=>(env[i]?).join.bind fun old=>bnd (aH cf env e H) fun v H2=>bnd (gH old v H2) fun r H3=>some ((.next,bB i r env),H3)
 | .auga o x e,env,H=>bnd (aH cf env o H) fun ov H1=>(eO ov x H1).bind fun old=>bnd (aH cf env e H1) fun v H3=>bnd (gH old v H3) fun r H4=>(kI ov x r H4).map fun H5=>((.next,env),H5)
 | .expr e,env,H=>bnd (aH cf env e H) fun _ H1=>some ((.next,env),H1)
 | .ite t a b,env,H=>bnd (bZ cf env t H) fun c H1=>ifB c (aJ cf a env H1) (aJ cf b env H1)
 | .ret e,env,H=>bnd (aH cf env e H) fun v H1=>some ((.ret v,env),H1)
 | .cont,env,H=>some ((.cont,env),H)
 | .for t u i b,env,H=>bnd (fJ cf env i H) fun it H1=>gQ it (lV (fun v env H=>dX t u v env H) (aJ cf b)) it.items env H1
 | .while t b,env,H=>mJ (fun env H=>bZ cf env t H) (aJ cf b) 200 env H
 | .dfind i a t h,env,H=>cD (qY i a t h env H) H
 | .dall i a h,env,H=>vA i a h env H
noncomputable def aJ (cf:aU):ISs→Env→Heap→ExR
 | .nil,env,H=>some ((.next,env),H)
 | .cons s r,env,H=>bnd (fD cf s env H) fun x H1=>match x.1 with
  | .next=>aJ cf r x.2 H1
  | _=>some (x,H1)
end
structure IFn where
 params:Nat
 dflts:List V
 slots:Nat
 body:ISs
noncomputable def mY (f:IFn) (vs:List V):Option Env :=
 aP (decide (vs.length ≤ f.params∧f.params ≤ vs.length + f.dflts.length))
  (some ((vs ++ f.dflts.drop (f.dflts.length - (f.params - vs.length))).map some ++ List.replicate (f.slots - f.params) .none))
noncomputable def outV:Fl→Option V
 | .ret v=>some v
 | .next=>some .none
 | .cont=>.none
noncomputable def aC (tab:F→IFn):Nat→aU
 | 0,_,_,_=>.none
 | n + 1,f,vs,H=>(mY (tab f) vs).bind fun env=>bnd (aJ (aC tab n) (tab f).body env H) fun x H1=>cD (outV x.1) H1
theorem nos {α:Type} {x:α} {G:Prop} (h:(Option.none:Option α) = some x):G:=nomatch h
theorem nof {G:Prop} (h:false = true):G:=nomatch h
theorem cps {p:Prop} (h:∀ G:Prop,(p→G)→G):p:=h p id
end Mine
end
section
namespace Mine
open PySem (Arguments Expr Stmt Str Operator CmpOp BoolOp UnaryOp Const Scope NameKind Comprehension Pos Keyword)
noncomputable def at_ {α:Type} (x:Str):List (Str × α)→Option α
 | []=>.none
 | (y,a) :: r=>if x = y then some a else at_ x r
theorem bCa {α:Type} {x:Str} {p:Str × α} {r:List (Str × α)}:at_ x (p :: r) = if x = p.1 then some p.2 else at_ x r:=rfl
noncomputable def fnT:List (Str × F):=[("_law_pick",.pick),("_law_text",.ltext),("_law_grouped",.lgrouped),("_law_structure",.lstructure),("_law_signature",.lsignature),("_law_made",.lmade),("_law_constant",.lconstant),("_law_named",.lnamed),
 ("whole_text",.whole_text),("string_text",.string_text),("set_text",.set_text),("truth_text",.truth_text),("typed_constant",.typed_constant),("constant_text",.constant_text),("basic_names",.basic_names),("is_plain",.is_plain),
 ("free_name",.free_name),("type_text",.type_text),("structure_text",.structure_text),("marked_name",.marked_name),("grouped",.grouped),("is_variable",.is_variable),("record_text",.record_text),("signature_text",.signature_text),
 ("defines",.defines),("declared_text",.declared_text),("section",.section_),("interface_names",.interface_names),("object_rows",.object_rows),("definition_text",.definition_text)]
noncomputable def qP:List (Str × Cls × F):=[("Type",.ty,.initTy),("Obj",.ob,.initOb),("Interface",.ifc,.initIfc),("Names",.nms,.initNms),("Types",.tys,.initTys)]
noncomputable def qF:List (Str × F × Cls):=[("new",.new,.tys),("string",.string,.tys),("enter",.enter,.nms),("is_taken",.is_taken,.nms),("module_name",.module_name,.nms),("name_of",.name_of,.nms)]
noncomputable def pJ:List (Str × Blt):=[("len",.len),("str",.str),("list",.list),("sum",.sum)]
noncomputable def bmT:List (Str × BM):=[("join",.join),("startswith",.startswith),("isalpha",.isalpha),("append",.append),("index",.index),("get",.get),("pop",.pop)]
noncomputable def atL:List Str:=(["number","form","size","base","length","fields","level","params","module","label","hidden","exno","name","kind","type","place","exported","readonly","value","slot","offset","isparam","narrowed","key","objs","imports","aliases","scopes","marks","counter","known","boolean","char","byte","integer","mask","nil","none"]:List String).map Str.ofString
noncomputable def idx (x:Str):List Str→Option Nat
 | []=>.none
 | y :: r=>if x = y then some 0 else (idx x r).map (· + 1)
theorem vLa {x y:Str} {r:List Str}:idx x (y :: r) = if x = y then some 0 else (idx x r).map (· + 1):=rfl
structure Sc where
 names:List (Str × NameKind)
 slots:List Str
 n:Nat
 inner:Option (List (Str × Nat))
noncomputable def Sc.kind (Γ:Sc) (x:Str):Option NameKind:=at_ x Γ.names
noncomputable def isK (k:NameKind):Option NameKind→Bool
 | some j=>j == k
 | .none=>false
noncomputable def Sc.loc (Γ:Sc) (x:Str):Option Nat:=match Γ.kind x with
 | some .local=>match Γ.inner with
  | .none=>idx x Γ.slots
  | some c=>at_ x c
 | some .cell=>match Γ.inner with
  | .none=>idx x Γ.slots
  | some _=>.none
 | some .free=>match Γ.inner with
  | .none=>.none
  | some _=>idx x Γ.slots
 | _=>.none
noncomputable def Sc.own (Γ:Sc) (x:Str):Option Nat:=aP (isK .local (Γ.kind x) && Γ.inner.isNone) (idx x Γ.slots)
noncomputable def Sc.cel (Γ:Sc) (x:Str):Option Nat:=aP (isK .cell (Γ.kind x) && Γ.inner.isNone) (idx x Γ.slots)
noncomputable def Sc.glob (Γ:Sc) (x:Str):Bool:=isK .globalImplicit (Γ.kind x)
noncomputable def baseOk (e:Expr):Bool:=!(Nat.beq e.ctorIdx 16)
noncomputable def notStar (e:Expr):Bool:=!(Nat.beq e.ctorIdx 22)
noncomputable def lC (e:Expr):Bool:=Nat.ble 8 e.ctorIdx && Nat.ble e.ctorIdx 10
noncomputable def lZ (e:Expr):Bool:=!(Nat.beq e.ctorIdx 7)
noncomputable def sE (names:List (Str × NameKind)) (sc:Scope) (xs:List Str):Bool :=
 sc.kind == .function && (sc.names.all fun y=>y.2 == .local || y.2 == .globalImplicit || (y.2 == .free && isK .cell (at_ y.1 names))) && (sc.names.all fun y=>isK y.2 (at_ y.1 sc.names)) &&
  (xs.all fun x=>isK .local (at_ x sc.names)) && (sc.names.all fun y=>y.1 != ("__debug__":Str)) && decide xs.Nodup
noncomputable def hSa (e:Expr):Option {q:Expr × List Comprehension × Scope × Pos // e = .ListComp q.1 q.2.1 q.2.2.1 q.2.2.2}:=if h:e.ctorIdx = 8 then Expr.ListComp.elim (motive_1:=fun e=>Option {q:Expr × List Comprehension × Scope × Pos // e = .ListComp q.1 q.2.1 q.2.2.1 q.2.2.2}) e h fun a b c d=>some ⟨(a,b,c,d),rfl⟩ else .none
noncomputable def rI (x:Str) (px:Pos) (e:Expr):Bool:=match hSa e with
 | some q=>px.line == q.1.2.2.2.line && !(q.1.2.2.1.names.any fun (n,k)=>n == x && (k == .local || k == .cell))
 | .none=>false
noncomputable def optE {α:Type} (o:Option α) (f:α→IE):IE:=match o with
 | some a=>f a
 | .none=>.dead
noncomputable def iffE (b:Bool) (e:IE):IE:=match b with
 | true=>e
 | false=>.dead
noncomputable def bXa:Const→IE
 | .none=>.const .none
 | .bool b=>.const (.bool b)
 | .int i=>.const (.int i)
 | .str s=>.const (.str s)
 | _=>.dead
noncomputable def gP:List IE→IEs
 | []=>.nil
 | e :: r=>.cons e (gP r)
noncomputable def tG:List IT→ITs
 | []=>.nil
 | e :: r=>.cons e (tG r)
noncomputable def iV:List IS→ISs
 | []=>.nil
 | e :: r=>.cons e (iV r)
noncomputable def nameP (e:Expr):Option {q:Str × Pos // e = .Name q.1 q.2}:=if h:e.ctorIdx = 23 then Expr.Name.elim (motive_1:=fun e=>Option {q:Str × Pos // e = .Name q.1 q.2}) e h fun x p=>some ⟨(x,p),rfl⟩ else .none
noncomputable def nameV (e:Expr):Option {x:Str // ∃ p,e = .Name x p}:=(nameP e).map fun q=>⟨q.1.1,q.1.2,q.2⟩
noncomputable def tupP (e:Expr):Option {q:List Expr × Nat × Pos // e = .Tuple q.1 q.2.1 q.2.2}:=if h:e.ctorIdx = 25 then Expr.Tuple.elim (motive_1:=fun e=>Option {q:List Expr × Nat × Pos // e = .Tuple q.1 q.2.1 q.2.2}) e h fun a b c=>some ⟨(a,b,c),rfl⟩ else .none
noncomputable def nameOf (e:Expr):Option Str:=(nameV e).map (·.1)
noncomputable def namesOf:List Expr→Option (List Str)
 | []=>some []
 | e :: r=>(nameOf e).bind fun x=>(namesOf r).map (x :: ·)
noncomputable def xAa (e:Expr):Option {q:Str × Expr // ∃ p1 p2,e = .Call (.Name q.1 p1) [q.2] [] p2}:=if h:e.ctorIdx = 16 then Expr.Call.elim (motive_1:=fun e=>Option {q:Str × Expr // ∃ p1 p2,e = .Call (.Name q.1 p1) [q.2] [] p2}) e h fun f as ks p2=>match nameP f,as,ks with
 | some q,[a],[]=>some ⟨(q.1.1,a),q.1.2,p2,congrArg (fun f=>Expr.Call f [a] [] p2) q.2⟩
 | _,_,_=>.none
 else .none
noncomputable def vZ (e:Expr):Option (Str × Expr):=(xAa e).map (·.1)
noncomputable def kQa (b:List Stmt):Option {q:Expr × List Stmt // ∃ p,b = [.If q.1 q.2 [] p]}:=match b with
 | [s]=>if h:s.ctorIdx = 12 then Stmt.If.elim (motive_2:=fun s=>Option {q:Expr × List Stmt // ∃ p,[s] = [.If q.1 q.2 [] p]}) s h fun t b c p=>match c with
  | []=>some ⟨(t,b),p,rfl⟩
  | _=>.none
  else .none
 | _=>.none
noncomputable def vTa (b:List Stmt):Option (Expr × List Stmt):=(kQa b).map (·.1)
noncomputable def vMa (e:Expr):Option {q:Expr × Expr // ∃ p,e = .BoolOp .And [q.1,q.2] p}:=if h:e.ctorIdx = 0 then Expr.BoolOp.elim (motive_1:=fun e=>Option {q:Expr × Expr // ∃ p,e = .BoolOp .And [q.1,q.2] p}) e h fun o es p=>match o,es with
 | .And,[a,b]=>some ⟨(a,b),p,rfl⟩
 | _,_=>.none
 else .none
noncomputable def rQa (e:Expr):Option (Expr × Expr):=(vMa e).map (·.1)
noncomputable def lLa (e:Expr):Option {q:Expr × CmpOp × Expr // ∃ p,e = .Compare q.1 [q.2.1] [q.2.2] p}:=if h:e.ctorIdx = 15 then Expr.Compare.elim (motive_1:=fun e=>Option {q:Expr × CmpOp × Expr // ∃ p,e = .Compare q.1 [q.2.1] [q.2.2] p}) e h fun a os bs p=>match os,bs with
 | [op],[b]=>some ⟨(a,op,b),p,rfl⟩
 | _,_=>.none
 else .none
noncomputable def aDa (f:CmpOp→Bool) (e:Expr):Option (Expr × CmpOp × Expr):=((lLa e).map (·.1)).bind fun q=>aP (f q.2.1) (some q)
noncomputable def yF (e:Expr):Option {q:Expr × Expr // ∃ p,e = .Subscript q.1 q.2 p}:=if h:e.ctorIdx = 21 then Expr.Subscript.elim (motive_1:=fun e=>Option {q:Expr × Expr // ∃ p,e = .Subscript q.1 q.2 p}) e h fun a b p=>some ⟨(a,b),p,rfl⟩ else .none
noncomputable def eTa (e:Expr):Option (Expr × Expr):=(yF e).map (·.1)
noncomputable def mO (e:Expr):Option {q:Expr × Str × Pos // e = .Attribute q.1 q.2.1 q.2.2}:=if h:e.ctorIdx = 20 then Expr.Attribute.elim (motive_1:=fun e=>Option {q:Expr × Str × Pos // e = .Attribute q.1 q.2.1 q.2.2}) e h fun a b p=>some ⟨(a,b,p),rfl⟩ else .none
noncomputable def qHa (e:Expr):Option {q:Expr × Str // ∃ p,e = .Attribute q.1 q.2 p}:=(mO e).map fun q=>⟨(q.1.1,q.1.2.1),q.1.2.2,q.2⟩
noncomputable def lBa (e:Expr):Option (Expr × Str):=(qHa e).map (·.1)
noncomputable def nPa (b:List Stmt):Option {e:Expr // ∃ p,b = [.Return (some e) p]}:=match b with
 | [s]=>if h:s.ctorIdx = 3 then Stmt.Return.elim (motive_2:=fun s=>Option {e:Expr // ∃ p,[s] = [.Return (some e) p]}) s h fun e p=>match e with
  | some e=>some ⟨e,p,rfl⟩
  | .none=>.none
  else .none
 | _=>.none
noncomputable def nWa (b:List Stmt):Option Expr:=(nPa b).map (·.1)
noncomputable def aKa (s:Stmt):Option {q:Expr × Expr // ∃ p,s = .Assign [q.1] q.2 p}:=if h:s.ctorIdx = 5 then Stmt.Assign.elim (motive_2:=fun s=>Option {q:Expr × Expr // ∃ p,s = .Assign [q.1] q.2 p}) s h fun ts v p=>match ts with
 | [t]=>some ⟨(t,v),p,rfl⟩
 | _=>.none
 else .none
noncomputable def qJa (b:List Stmt):Option {q:Expr × Expr // ∃ p,b = [.Assign [q.1] q.2 p]}:=match b with
 | [s]=>(aKa s).map fun q=>⟨q.1,let ⟨p,e⟩:=q.2; ⟨p,congrArg (fun s=>[s]) e⟩⟩
 | _=>.none
noncomputable def kZa (b:List Stmt):Option (Expr × Expr):=(qJa b).map (·.1)
noncomputable def eSa (e:Expr):Option {c:Const // ∃ k p,e = .Constant c k p}:=if h:e.ctorIdx = 19 then Expr.Constant.elim (motive_1:=fun e=>Option {c:Const // ∃ k p,e = .Constant c k p}) e h fun c k p=>some ⟨c,k,p,rfl⟩ else .none
noncomputable def zP (e:Expr):Option {lo:Expr // ∃ p,e = .Slice (some lo) none none p}:=if h:e.ctorIdx = 26 then Expr.Slice.elim (motive_1:=fun e=>Option {lo:Expr // ∃ p,e = .Slice (some lo) none none p}) e h fun a b c p=>match a,b,c with
 | some lo,.none,.none=>some ⟨lo,p,rfl⟩
 | _,_,_=>.none
 else .none
noncomputable def wZa (c:Const):Bool:=match c with
 | .bool b=>b
 | _=>false
noncomputable def yX (e:Expr):Bool:=match eSa e with
 | some c=>wZa c.1
 | .none=>false
noncomputable def isEq:CmpOp→Bool
 | .Eq=>true
 | _=>false
noncomputable def isNotIn:CmpOp→Bool
 | .NotIn=>true
 | _=>false
noncomputable def oFa (c:Const):Option {s:Str // c = .str s}:=match c with
 | .str s=>some ⟨s,rfl⟩
 | _=>.none
noncomputable def keyOf (o:Option Expr):Option Str:=o.bind fun e=>(eSa e).bind fun c=>(oFa c.1).map (·.1)
noncomputable def keysOf:List (Option Expr)→Option (List Str)
 | []=>some []
 | e :: r=>(keyOf e).bind fun x=>(keysOf r).map (x :: ·)
structure Tr where
 e:Sc→Expr→IE
 t:Sc→Expr→IT
noncomputable def jZ (r:Tr) (Γ:Sc) (as:List Expr):IEs:=gP (as.map fun a=>iffE (notStar a) (r.e Γ a))
noncomputable def trI (r:Tr) (Γ:Sc) (e:Expr):II:=match vZ e with
 | some p=>if p.1 = Str.ofString "range" then .range (iffE (Γ.glob p.1 && notStar p.2) (r.e Γ p.2)) else if p.1 = Str.ofString "reversed" then .rev (iffE (Γ.glob p.1 && notStar p.2) (r.e Γ p.2)) else .of (r.e Γ e)
 | none=>.of (r.e Γ e)
noncomputable def bUa (r:Tr) (Γ:Sc) (g:Str) (as:List Expr):IE:=iffE (Γ.glob g) (match at_ g fnT with
 | some f=>.call f (jZ r Γ as)
 | .none=>match at_ g qP with
  | some p=>.make p.1 p.2 (jZ r Γ as)
  | .none=>match at_ g pJ with
   | some b=>.blt b (jZ r Γ as)
   | .none=>.dead)
noncomputable def dZa (r:Tr) (Γ:Sc) (o:Expr) (m:Str) (p1 p:Pos) (as:List Expr):IE:=iffE (baseOk o && (p1.endLine == p.line) && decide (as.length < 30)) (match at_ m qF with
 | some q=>.ometh q.1 q.2 (r.e Γ o) (jZ r Γ as)
 | .none=>match at_ m bmT with
  | some b=>.bmeth b (r.e Γ o) (jZ r Γ as)
  | .none=>.dead)
noncomputable def yQ (r:Tr) (Γ:Sc) (f:Expr) (as:List Expr) (p:Pos):IE:=match nameP f with
 | some q=>bUa r Γ q.1.1 as
 | .none=>match mO f with
  | some q=>dZa r Γ q.1.1 q.1.2.1 q.1.2.2 p as
  | .none=>.dead
noncomputable def zQ (r:Tr) (Γ:Sc) (elt:Expr) (u:Bool) (xs:List Str) (it:Expr) (ifs:List Expr) (sc:Scope):IE :=
 iffE (sE Γ.names sc xs && lZ it && Γ.inner.isNone && decide (xs.length ≤ 4))
  (let is:=(List.range xs.length).map (Γ.n + ·)
   let Γ':Sc:=⟨sc.names,Γ.slots,Γ.n,some (xs.zip is)⟩
   .comp is u (trI r Γ it) (tG (ifs.map (r.t Γ'))) (r.e Γ' elt))
noncomputable def Tgt (u:Bool) (xs:List Str) (tgt:Expr):Prop:=(u = false∧∃ x px,tgt = .Name x px∧xs = [x]) ∨ (u = true∧∃ es k px,tgt = .Tuple es k px∧namesOf es = some xs)
structure Gen where
 u:Bool
 xs:List Str
 tgt:Expr
 it:Expr
 ifs:List Expr
noncomputable def oWa (t:Expr):Option {q:Bool × List Str // Tgt q.1 q.2 t}:=match nameP t with
 | some q=>some ⟨(false,[q.1.1]),.inl ⟨rfl,q.1.1,q.1.2,q.2,rfl⟩⟩
 | .none=>match tupP t with
  | some q=>match h:namesOf q.1.1 with
   | some xs=>some ⟨(true,xs),.inr ⟨rfl,q.1.1,q.1.2.1,q.1.2.2,q.2,h⟩⟩
   | .none=>.none
  | .none=>.none
noncomputable def aBa (gs:List Comprehension):Option {q:Gen // gs = [⟨q.tgt,q.it,q.ifs,0⟩]∧Tgt q.u q.xs q.tgt}:=match gs with
 | [⟨t,it,ifs,0⟩]=>(oWa t).map fun q=>⟨⟨q.1.1,q.1.2,t,it,ifs⟩,rfl,q.2⟩
 | _=>.none
noncomputable def rP (r:Tr) (Γ:Sc) (elt:Expr) (gs:List Comprehension) (sc:Scope):IE:=match aBa gs with
 | some q=>zQ r Γ elt q.1.u q.1.xs q.1.it q.1.ifs sc
 | .none=>.dead
noncomputable def zU (r:Tr) (Γ:Sc) (e:Expr):IE:=match e with
 | .Constant c _ _=>bXa c
 | .Name x _=>optE (Γ.loc x) .loc
 | .BinOp a op b _=>.bin op (r.e Γ a) (r.e Γ b)
 | .UnaryOp op a _=>match op with
  | .USub=>.neg (r.e Γ a)
  | .Not=>.not (r.e Γ a)
  | _=>.dead
 | .BoolOp op es p=>match es with
  | [a,b]=>match op with
   | .And=>.and (r.e Γ a) (r.e Γ b)
   | .Or=>.or (r.e Γ a) (r.e Γ b)
  | a :: b :: c :: es=>match op with
   | .And=>.and (r.e Γ a) (r.e Γ (.BoolOp .And (b :: c :: es) p))
   | .Or=>.dead
  | _=>.dead
 | .IfExp t a b _=>.ite (r.t Γ t) (r.e Γ a) (r.e Γ b)
 | .Compare a ops bs _=>match ops,bs with
  | [op],[b]=>iffE (!PySem.behindInMarks op b) (.cmp op (r.e Γ a) (r.e Γ b))
  | _,_=>.dead
 | .Call f as kws p=>match kws with
  | []=>yQ r Γ f as p
  | _=>.dead
 | .Attribute o x _=>optE (idx x atL) fun n=>iffE (baseOk o) (.attr (r.e Γ o) n)
 | .Subscript o i _=>match zP i with
  | some q=>.tail (r.e Γ o) (r.e Γ q.1)
  | .none=>.sub (r.e Γ o) (r.e Γ i)
 | .List es _=>.list (jZ r Γ es)
 | .Tuple es _ _=>.tuple (jZ r Γ es)
 | .Dict ks vs _=>optE (keysOf ks) fun xs=>.dict xs (gP (vs.map (r.e Γ)))
 | .ListComp elt gs sc _=>rP r Γ elt gs sc
 | _=>.dead
noncomputable def stepT (r:Tr) (Γ:Sc) (e:Expr):IT:=match e with
 | .UnaryOp op a p=>match op with
  | .Not=>.not (r.t Γ a)
  | op=>.val (r.e Γ (.UnaryOp op a p))
 | .BoolOp op es p=>match es with
  | [a,b]=>match op with
   | .And=>.and (r.t Γ a) (r.t Γ b)
   | .Or=>.or (r.t Γ a) (r.t Γ b)
  | a :: b :: c :: es=>match op with
   | .And=>.and (r.t Γ a) (r.t Γ (.BoolOp .And (b :: c :: es) p))
   | .Or=>.val .dead
  | _=>.val .dead
 | .IfExp ..=>.val .dead
 | e=>.val (r.e Γ e)
noncomputable def trK:Nat→Tr
 | 0=>⟨fun _ _=>.dead,fun _ _=>.val .dead⟩
 | k + 1=>⟨zU (trK k),stepT (trK k)⟩
noncomputable def dead:IS:=.expr .dead
noncomputable def optS {α:Type} (o:Option α) (f:α→IS):IS:=match o with
 | some a=>f a
 | .none=>dead
noncomputable def iffS (b:Bool) (e:IS):IS:=match b with
 | true=>e
 | false=>dead
noncomputable def nT (Γ:Sc):List Str→Option (List Nat)
 | []=>some []
 | x :: r=>(Γ.own x).bind fun i=>(nT Γ r).map (i :: ·)
noncomputable def tR (Γ:Sc) (t it:Expr) (b:List Stmt):Option IS :=
 (nameOf t).bind fun x=>(nameOf it).bind fun sc=>(vTa b).bind fun p=>(rQa p.1).bind fun q=>(aDa isEq q.1).bind fun u=>(eTa u.1).bind fun v=>(nameOf v.1).bind fun sc'=>(nameOf v.2).bind fun x1 =>
 (lBa u.2.2).bind fun w=>(nameOf w.1).bind fun t=>(aDa isNotIn q.2).bind fun u'=>(nameOf u'.1).bind fun x2=>(nameOf u'.2.2).bind fun h=>(nWa p.2).bind fun rv=>(nameOf rv).bind fun x3 =>
 aP (decide (w.2 = Str.ofString "number"∧sc' = sc∧x1 = x∧x2 = x∧x3 = x)) ((Γ.own x).bind fun i=>(Γ.own sc).bind fun a=>(Γ.own t).bind fun k=>(Γ.own h).bind fun g=>aP (i != a && i != k && i != g) (some (.dfind i a k g)))
noncomputable def uQ (Γ:Sc) (t it:Expr) (b:List Stmt):Option IS :=
 (nameOf t).bind fun x=>(nameOf it).bind fun sc=>(kZa b).bind fun p=>(eTa p.1).bind fun q=>(nameOf q.1).bind fun h=>(nameOf q.2).bind fun x1 =>
 aP (decide (h = Str.ofString "hidden"∧x1 = x) && yX p.2) ((Γ.own x).bind fun i=>(Γ.own sc).bind fun a=>(Γ.own h).bind fun g=>aP (i != a && i != g) (some (.dall i a g)))
noncomputable def zL (r:Tr) (Γ:Sc) (t v:Expr):IS:=match nameP t with
 | some q=>iffS (!lC v || rI q.1.1 q.1.2 v) (optS (Γ.own q.1.1) fun i=>.setl i (r.e Γ v))
 | none=>match mO t with
  | some q=>optS (idx q.1.2.1 atL) fun n=>.seta (r.e Γ q.1.1) n (r.e Γ v)
  | none=>match yF t with
   | some q=>.seti (r.e Γ q.1.1) (r.e Γ q.1.2) (r.e Γ v)
   | none=>dead
noncomputable def wF (r:Tr) (s:Sc→Stmt→IS) (Γ:Sc) (t it:Expr) (b:List Stmt):IS:=match nameP t with
 | some q=>iffS (lZ it) (optS (Γ.own q.1.1) fun i=>.for [i] false (trI r Γ it) (iV (b.map (s Γ))))
 | none=>match tupP t with
  | some q=>iffS (lZ it) (optS ((namesOf q.1.1).bind (nT Γ)) fun is=>.for is true (trI r Γ it) (iV (b.map (s Γ))))
  | none=>dead
noncomputable def hCa (r:Tr) (s:Sc→Stmt→IS) (Γ:Sc) (st:Stmt):IS:=match st with
 | .Assign ts v _=>match ts with
  | [t]=>zL r Γ t v
  | _=>dead
 | .AugAssign t op v _=>match op with
  | .Add=>match nameP t with
   | some q=>optS (Γ.own q.1.1) fun i=>.augl i (r.e Γ v)
   | none=>match mO t with
    | some q=>optS (idx q.1.2.1 atL) fun n=>.auga (r.e Γ q.1.1) n (r.e Γ v)
    | none=>dead
  | _=>dead
 | .Expr e _=>iffS (!lC e) (.expr (r.e Γ e))
 | .If t a b _=>.ite (r.t Γ t) (iV (a.map (s Γ))) (iV (b.map (s Γ)))
 | .Return e _=>match e with
  | some e=>.ret (r.e Γ e)
  | none=>dead
 | .Continue _=>.cont
 | .For t it b els _=>match els with
  | []=>match tR Γ t it b with
   | some x=>x
   | none=>match uQ Γ t it b with
    | some x=>x
    | none=>wF r s Γ t it b
  | _=>dead
 | .While t b els _=>match els with
  | []=>.while (r.t Γ t) (iV (b.map (s Γ)))
  | _=>dead
 | _=>dead
noncomputable def rT:Nat→Sc→Stmt→IS
 | 0=>fun _ _=>dead
 | k + 1=>hCa (trK 30) (rT k)
noncomputable def trB (Γ:Sc) (st:Stmt):IS:=match aKa st with
 | some q=>match (nameOf q.1.1).bind Γ.cel with
  | some i=>iffS (!lC q.1.2) (.setl i ((trK 30).e Γ q.1.2))
  | none=>rT 12 Γ st
 | none=>rT 12 Γ st
noncomputable def bT (k:Nat):Stmt:=(PySem.Challenge.pw_pb0355_01.main.body[k]?).getD default
noncomputable def jB (s:Stmt) (k:Nat):Stmt:=if h:s.ctorIdx = 2 then Stmt.ClassDef.elim (motive_2:=fun _=>Stmt) s h fun _ _ _ b _ _ _ _ _ _ _=>(b[k]?).getD default else default
structure Src where
 params:List Str
 dflts:List Expr
 scope:Scope
 body:List Stmt
structure fCa where
 a:Arguments
 b:List Stmt
 sc:Scope
 p:Pos
noncomputable def fdOf (s:Stmt):fCa:=if h:s.ctorIdx = 0 then Stmt.FunctionDef.elim (motive_2:=fun _=>fCa) s h fun _ a b _ _ _ sc _ _ p=>⟨a,b,sc,p⟩ else ⟨⟨[],[],none,[],[],none,[]⟩,[],⟨.function,[],false,false,[]⟩,default⟩
noncomputable def srcOf (s:Stmt):Src:=let d:=fdOf s; ⟨d.a.args.map (·.arg),d.a.defaults,d.sc,d.b⟩
noncomputable def oAa (k:NameKind):Bool:=k == .local || k == .cell
noncomputable def slotsOf (names:List (Str × NameKind)):List Str:=(names.filter fun x=>oAa x.2).map (·.1)
noncomputable def rM:F→Stmt
 | .pick=>bT 36 | .ltext=>bT 37 | .lgrouped=>bT 38 | .lstructure=>bT 39 | .lsignature=>bT 40 | .lmade=>bT 41 | .lconstant=>bT 42 | .lnamed=>bT 43 | .law=>bT 44
 | .whole_text=>bT 3 | .string_text=>bT 5 | .set_text=>bT 6 | .truth_text=>bT 7 | .typed_constant=>bT 9 | .constant_text=>bT 10
 | .basic_names=>bT 12 | .is_plain=>bT 13 | .free_name=>bT 15 | .type_text=>bT 16 | .structure_text=>bT 17 | .marked_name=>bT 18 | .grouped=>bT 19 | .is_variable=>bT 20
 | .record_text=>bT 21 | .signature_text=>bT 22 | .defines=>bT 23 | .declared_text=>bT 24 | .section_=>bT 26 | .interface_names=>bT 27 | .object_rows=>bT 28 | .definition_text=>bT 29
 | .initTy=>jB (bT 31) 0 | .initOb=>jB (bT 32) 0 | .initIfc=>jB (bT 33) 0 | .initTys=>jB (bT 34) 0 | .new=>jB (bT 34) 1 | .string=>jB (bT 34) 2
 | .initNms=>jB (bT 14) 0 | .enter=>jB (bT 14) 1 | .is_taken=>jB (bT 14) 4 | .module_name=>jB (bT 14) 5 | .name_of=>jB (bT 14) 6
noncomputable def src (f:F):Src:=srcOf (rM f)
noncomputable def scF (f:F):Sc:=let names:=(src f).scope.names; let slots:=slotsOf names; ⟨names,slots,slots.length,.none⟩
noncomputable def dZ (f:F):List V:=match Nat.beq f.ctorIdx 36 with
 | true=>[.str (Str.ofString ""),.str (Str.ofString "")]
 | false=>[]
noncomputable def tab (f:F):IFn:=⟨(src f).params.length,dZ f,(scF f).n + 4,iV ((src f).body.map (trB (scF f)))⟩
noncomputable def lR:List F:=[.pick,.ltext,.lgrouped,.lstructure,.lsignature,.lmade,.lconstant,.lnamed,.law,.whole_text,.string_text,.set_text,.truth_text,.typed_constant,.constant_text,.basic_names,.is_plain,.free_name,.type_text,.structure_text,.marked_name,.grouped,.is_variable,.record_text,.signature_text,.defines,.declared_text,.section_,.interface_names,.object_rows,.definition_text,.initTy,.initOb,.initIfc,.initTys,.new,.string,.initNms,.enter,.is_taken,.module_name,.name_of]
end Mine
end
section
open PySem PySem.W PyProof.Rows PySem.Calls
namespace Mine
noncomputable abbrev xPa:=Addr
noncomputable abbrev Real:=PySem.Heap
noncomputable abbrev Rho:=List (Addr × List Addr)
noncomputable def cX (n:Nat):PySem.Str:=(atL[n]?).getD (PySem.Str.ofString "none")
theorem jU {x:PySem.Str}:∀ {l:List PySem.Str} {i:Nat},idx x l = some i→l[i]? = some x
 | [],_,h=>by cases h
 | y :: r,i,h=>by
  rw [vLa] at h
  split at h
  ·rename_i e; cases h; rw [e]; rfl
  ·obtain ⟨j,hj,rfl⟩:=Option.map_eq_some_iff.mp h
   exact jU (l:=r) hj
theorem xU {x:PySem.Str} {n:Nat} (h:idx x atL = some n):x = cX n:=by
 unfold cX; rw [jU h]; rfl
theorem nO {x:PySem.Str} {n:Nat} (h:idx x atL = some n):n < 38:=by
 have:=(List.getElem?_eq_some_iff.mp (jU h)).1
 exact this
inductive gAa {α β:Type} (o:Option α) (f:α→Option β) (b:β):Prop where
 | mk (a:α):o = some a→f a = some b→gAa o f b
inductive fIa {α β:Type} (o:Option α) (f:α→β) (b:β):Prop where
 | mk (a:α):o = some a→f a = b→fIa o f b
inductive iHa {α β:Type} (o:Option (α × Heap)) (f:α→Heap→Option β) (b:β):Prop where
 | mk (a:α) (H1:Heap):o = some (a,H1)→f a H1 = some b→iHa o f b
theorem bind_eq {α β:Type} {o:Option α} {f:α→Option β} {b:β} (e:o.bind f = some b):gAa o f b:=let ⟨a,x,y⟩:=Option.bind_eq_some_iff.mp e; ⟨a,x,y⟩
theorem map_eq {α β:Type} {o:Option α} {f:α→β} {b:β} (e:o.map f = some b):fIa o f b:=let ⟨a,x,y⟩:=Option.map_eq_some_iff.mp e; ⟨a,x,y⟩
theorem val_eq {α:Type} {P:α→Prop} {o:Option {x // P x}} {a:α} (h:o.map (·.1) = some a):P a:=by
 obtain ⟨y,_,rfl⟩:=map_eq h
 exact y.2
theorem bD {α:Type} {b:Bool} {x:Option α} {r:α} (e:aP b x = some r):b = true∧x = some r:=by
 cases b with
 | true=>exact ⟨rfl,e⟩
 | false=>first | exact nos e | exact nof e | cases e
theorem aW {α β:Type} {o:Option (α × Heap)} {f:α→Heap→Option β} {b:β} (e:bnd o f = some b):iHa o f b:=by
 cases o with
 | none=>first | exact nos e | exact nof e | cases e
 | some x=>exact ⟨x.1,x.2,rfl,e⟩
theorem iW {α:Type} {o:Option α} {H H':Heap} {a:α} (e:cD o H = some (a,H')):o = some a∧H' = H:=by
 cases o with
 | none=>first | exact nos e | exact nof e | cases e
 | some x=>cases e; exact ⟨rfl,rfl⟩
theorem iZ {v:V} {i:Int} (e:asInt v = some i):v = .int i:=by
 cases v <;> first | (cases e; rfl) | exact nos e | exact nof e | cases e
theorem nH {v:V} {i:PySem.Str} (e:asStr v = some i):v = .str i:=by
 cases v <;> first | (cases e; rfl) | exact nos e | exact nof e | cases e
theorem eGa {v:V} {i:Bool} (e:lH v = some i):v = .bool i:=by
 cases v <;> first | (cases e; rfl) | exact nos e | exact nof e | cases e
theorem iD {v:V} {i:Nat} (e:eU v = some i):v = .ref i:=by
 cases v <;> first | (cases e; rfl) | exact nos e | exact nof e | cases e
theorem sJ {α:Type} {vs:List V} {f:V→Option α} {r:α} (e:oH vs f = some r):∃ x,vs = [x]∧f x = some r:=by
 cases vs with
 | nil=>exact nos e
 | cons x r=>cases r with
  | nil=>exact ⟨x,rfl,e⟩
  | cons _ _=>exact nos e
theorem eWa {α:Type} {vs:List V} {f:V→V→Option α} {r:α} (e:aXa vs f = some r):∃ x y,vs = [x,y]∧f x y = some r:=by
 cases vs with
 | nil=>exact nos e
 | cons x r=>cases r with
  | nil=>exact nos e
  | cons y r=>cases r with
   | nil=>exact ⟨x,y,rfl,e⟩
   | cons _ _=>exact nos e
theorem gZa {v:V} (e:isNone v = true):v = .none:=by
 cases v <;> first | rfl | exact nos e | exact nof e | cases e
theorem kY {o:Option O} {vs:List V} (e:cN o = some vs):o = some (.list vs):=by
 cases o with
 | none=>first | exact nos e | exact nof e | cases e
 | some o=>cases o <;> first | (cases e; rfl) | exact nos e | exact nof e | cases e
theorem wD {o:Option O} {vs:List V} (e:jG o = some vs):o = some (.tuple vs):=by
 cases o with
 | none=>first | exact nos e | exact nof e | cases e
 | some o=>cases o <;> first | (cases e; rfl) | exact nos e | exact nof e | cases e
theorem yE {o:Option O} {vs:List (PySem.Str × V)} (e:iB o = some vs):o = some (.dict vs):=by
 cases o with
 | none=>first | exact nos e | exact nof e | cases e
 | some o=>cases o <;> first | (cases e; rfl) | exact nos e | exact nof e | cases e
theorem sIa {o:Option O} {p:Cls × List (Nat × V)} (e:oY o = some p):o = some (.inst p.1 p.2):=by
 cases o with
 | none=>first | exact nos e | exact nof e | cases e
 | some o=>cases o <;> first | (cases e; rfl) | exact nos e | exact nof e | cases e
theorem listAt_eq {H:Heap} {v:V} {vs:List V} (e:listAt H v = some vs):∃ a,v = .ref a∧H[a]? = some (.list vs):=let ⟨a,h1,h2⟩:=bind_eq e; ⟨a,iD h1,kY h2⟩
theorem cYa {H:Heap} {v:V} {vs:List V} (e:oG H v = some vs):∃ a,v = .ref a∧H[a]? = some (.tuple vs):=let ⟨a,h1,h2⟩:=bind_eq e; ⟨a,iD h1,wD h2⟩
theorem aVa {H:Heap} {v:V} {vs:List (PySem.Str × V)} (e:dictAt H v = some vs):∃ a,v = .ref a∧H[a]? = some (.dict vs):=let ⟨a,h1,h2⟩:=bind_eq e; ⟨a,iD h1,yE h2⟩
theorem sUa {H:Heap} {v:V} {p:Cls × List (Nat × V)} (e:mW H v = some p):∃ a,v = .ref a∧H[a]? = some (.inst p.1 p.2):=let ⟨a,h1,h2⟩:=bind_eq e; ⟨a,iD h1,sIa h2⟩
theorem oU {vs:List V} {H H':Heap} {v:V} (e:fC vs H = some (v,H')):vs.length ≤ 1000∧v = .ref H.length∧H' = H ++ [.list vs]:=by
 obtain ⟨h1,h2⟩:=bD e
 clear e; cases h2
 exact ⟨of_decide_eq_true h1,rfl,rfl⟩
inductive VR (ρ:Rho):V→Value→Prop where
 | none:VR ρ .none .none
 | bool (b):VR ρ (.bool b) (.bool b)
 | int (i t):VR ρ (.int i) (.int i t)
 | str (s t):VR ρ (.str s) (.str s t)
 | ref {a r}:ρ[a]? = some r→VR ρ (.ref a) (.ref r.1)
theorem VR.str_ {ρ:Rho} {v:V} {rv:Value} {x:PySem.Str} (h:VR ρ v rv) (e:asStr v = some x):∃ t,rv = .str x t:=by
 cases nH e
 clear e; cases h
 exact ⟨_,rfl⟩
theorem VR.int_ {ρ:Rho} {v:V} {rv:Value} {x:Int} (h:VR ρ v rv) (e:asInt v = some x):∃ t,rv = .int x t:=by
 cases iZ e
 clear e; cases h
 exact ⟨_,rfl⟩
inductive VRs (ρ:Rho):List V→List Value→Prop where
 | nil:VRs ρ [] []
 | cons {v rv vs rvs}:VR ρ v rv→VRs ρ vs rvs→VRs ρ (v :: vs) (rv :: rvs)
inductive PR {K:Type} (ρ:Rho):List (K × V)→List (K × Value)→Prop where
 | nil:PR ρ [] []
 | cons {k:K} {v rv es kvs}:VR ρ v rv→PR ρ es kvs→PR ρ ((k,v) :: es) ((k,rv) :: kvs)
noncomputable def aQ (ρ ρ':Rho):Prop:=∀ (a:Nat) r,ρ[a]? = some r→ρ'[a]? = some r
theorem aQ.refl (ρ:Rho):aQ ρ ρ:=fun _ _ e=>e
theorem aQ.trans {a b c:Rho} (h:aQ a b) (k:aQ b c):aQ a c:=fun x r e=>k x r (h x r e)
theorem aQ.app (ρ:Rho) (r):aQ ρ (ρ ++ [r]):=fun a x e=>by rw [List.getElem?_append_left (List.getElem?_eq_some_iff.mp e).1]; exact e
theorem VR.grow {ρ ρ':Rho} (g:aQ ρ ρ') {v:V} {rv:Value} (h:VR ρ v rv):VR ρ' v rv:=by
 cases h with
 | none=>exact .none
 | bool b=>exact .bool b
 | int i t=>exact .int i t
 | str s t=>exact .str s t
 | ref e=>exact .ref (g _ _ e)
theorem VRs.grow {ρ ρ':Rho} (g:aQ ρ ρ') {vs:List V} {rvs:List Value} (h:VRs ρ vs rvs):VRs ρ' vs rvs:=by
 induction h with
 | nil=>exact .nil
 | cons h _ ih=>exact .cons (h.grow g) ih
theorem PR.grow {K:Type} {ρ ρ':Rho} (g:aQ ρ ρ') {vs:List (K × V)} {rvs:List (K × Value)} (h:PR ρ vs rvs):PR ρ' vs rvs:=by
 induction h with
 | nil=>exact .nil
 | cons h _ ih=>exact .cons (h.grow g) ih
theorem VRs.length {ρ:Rho} {vs:List V} {rvs:List Value} (h:VRs ρ vs rvs):rvs.length = vs.length:=by
 induction h with
 | nil=>rfl
 | cons _ _ ih=>simp [ih]
theorem VRs.get {ρ:Rho} {vs:List V} {rvs:List Value} (h:VRs ρ vs rvs):∀ {j:Nat} {v:V},vs[j]? = some v→∃ rv,rvs[j]? = some rv∧VR ρ v rv:=by
 induction h with
 | nil=>intro j v e; first | exact nos e | exact nof e | cases e
 | cons h _ ih =>
  intro j v e
  cases j with
  | zero=>cases e; exact ⟨_,rfl,h⟩
  | succ j=>exact ih e
theorem VRs.append {ρ:Rho} {vs us:List V} {rvs rus:List Value} (h:VRs ρ vs rvs) (k:VRs ρ us rus):VRs ρ (vs ++ us) (rvs ++ rus):=by
 induction h with
 | nil=>exact k
 | cons h _ ih=>exact .cons h ih
theorem VRs.set {ρ:Rho} {vs:List V} {rvs:List Value} (h:VRs ρ vs rvs) {v:V} {rv:Value} (k:VR ρ v rv):∀ j,VRs ρ (vs.set j v) (rvs.set j rv):=by
 induction h with
 | nil=>intro j; exact .nil
 | cons h t ih =>
  intro j
  cases j with
  | zero=>exact .cons k t
  | succ j=>exact .cons h (ih j)
theorem VRs.drop {ρ:Rho} {vs:List V} {rvs:List Value} (h:VRs ρ vs rvs):∀ j,VRs ρ (vs.drop j) (rvs.drop j):=by
 induction h with
 | nil=>intro j; simpa using VRs.nil
 | cons h t ih =>
  intro j
  cases j with
  | zero=>exact .cons h t
  | succ j=>exact ih j
noncomputable abbrev cL (rvs:List Value) (n:Nat):Obj:={ cls:=.type "list",data:=.seq rvs.toArray n }
noncomputable abbrev hVa (rvs:List Value) (n:Nat):Obj:={ cls:=.type "tuple",data:=.seq rvs.toArray n }
theorem uM {h₀ h:Real} {L:Addr} {m:PySem.Str→Option Value} (F:Fr h₀ L h m) (n:h₀.NoLimit):sysModules < h.objs.size :=
 Nat.lt_trans (modules_low n) (Nat.lt_of_le_of_lt F.above F.ns.lt)
structure xOa where
 at_:Cls→Addr
section
variable (prog:Program) (w:World) (ca:Cls→Addr)
inductive OR (h:Real) (ρ:Rho) (tup:Nat→Prop):Addr→List Addr→O→Prop where
 | list {a vs rvs n}:h.get? a = some (cL rvs n)→VRs ρ vs rvs→vs.length ≤ 2000→OR h ρ tup a [] (.list vs)
 | tuple {a vs rvs n}:h.get? a = some (hVa rvs n)→VRs ρ vs rvs→vs.length ≤ 2000→OR h ρ tup a [] (.tuple vs)
 | dict {a es kvs}:h.DictOf (strKind prog w) a kvs→PR ρ es kvs→es.length ≤ 2000→OR h ρ tup a [] (.dict es)
 | idict {a es kvs}:h.DictOf (intKind prog w) a kvs→PR ρ es kvs→es.length ≤ 2000→OR h ρ tup a [] (.idict es)
 | tdict {a ks xs}:h.DictOfH (tupleKind (strKind prog w)) a xs→xs.map (·.1) = ks→(∀ x ∈ xs,∃ j:Nat,tup j∧ρ[j]? = some (x.2.1,[]))→OR h ρ tup a [] (.tdict ks)
 | inst {a d c fs kvs es n}:h.get? a = some (instObj (ca c) d)→h.get? d = some (dictOf es n)→Pairs (strKind prog w) es kvs→(kvs.map (·.1)).Nodup→PR ρ (fs.map fun f=>(cX f.1,f.2)) kvs→(∀ f ∈ fs,f.1 < 38)→OR h ρ tup a [d] (.inst c fs)
noncomputable def own (ρ:Rho):List Addr:=ρ.flatMap fun r=>r.1 :: r.2
noncomputable def cV (H:Heap) (j:Nat):Prop:=∃ vs,H[j]? = some (.tuple vs)
structure Sim (h₀:Real) (L:Addr) (h:Real) (ρ:Rho) (H:Heap) (X:List (Addr × Obj)):Prop where
 len:ρ.length = H.length
 cont:∀ (i:Nat) o,H[i]? = some o→∃ r,ρ[i]? = some r∧OR prog w ca h ρ (cV H) r.1 r.2 o
 nd:(own ρ).Nodup
 fresh:∀ a ∈ own ρ,(∃ o,h.get? a = some o)∧a ≠ L∧h₀.get? a = none∧sysModules < a
 priv:∀ x ∈ X,h.get? x.1 = some x.2∧x.1 ≠ L∧h₀.get? x.1 = none∧x.1 ∉ own ρ
 xnd:(X.map (·.1)).Nodup
end
theorem eV {ρ:Rho} {i:Nat} {r:Addr × List Addr} (h:ρ[i]? = some r) {b:Addr} (hb:b ∈ r.1 :: r.2):b ∈ own ρ:=by
 unfold own
 rw [List.mem_flatMap]
 exact ⟨r,List.mem_of_getElem? h,hb⟩
theorem zM:∀ {ρ:Rho},(own ρ).Nodup→∀ {i j:Nat} {r r':Addr × List Addr},ρ[i]? = some r→ρ[j]? = some r'→i ≠ j→∀ b ∈ r.1 :: r.2,b ∉ r'.1 :: r'.2
 | [],_,_,_,_,_,h,_,_=>by cases h
 | x :: ρ,nd,i,j,r,r',hi,hj,ne=>by
  have nd':((x.1 :: x.2) ++ own ρ).Nodup:=nd
  rw [List.nodup_append] at nd'
  obtain ⟨_,n2,n3⟩:=nd'
  clear nd; cases i with
  | zero =>
   cases hi
   cases j with
   | zero=>exact absurd rfl ne
   | succ j=>intro b hb hb'; exact n3 b hb b (eV (ρ:=ρ) (i:=j) hj hb') rfl
  | succ i =>
   cases j with
   | zero=>cases hj; intro b hb hb'; exact n3 b hb' b (eV (ρ:=ρ) (i:=i) hi hb) rfl
   | succ j=>exact zM n2 (i:=i) (j:=j) hi hj (fun e=>ne (by rw [e]))
section
variable {prog:Program} {w:World} {ca:Cls→Addr} {h₀ h h':Real} {L:Addr} {ρ ρ':Rho} {H:Heap} {X:List (Addr × Obj)}
theorem OR.at {tup tup':Nat→Prop} {a:Addr} {as:List Addr} {o:O} (x:OR prog w ca h ρ tup a as o) (g:aQ ρ ρ') (ht:∀ j,tup j→tup' j)
  (hk:∀ b ∈ a :: as,∀ o,h.get? b = some o→h'.get? b = some o) (hkt:∀ (j:Nat) r,tup j→ρ[j]? = some r→∀ o,h.get? r.1 = some o→h'.get? r.1 = some o):OR prog w ca h' ρ' tup' a as o:=by
 cases x with
 | list e v l=>exact .list (hk _ (.head _) _ e) (v.grow g) l
 | tuple e v l=>exact .tuple (hk _ (.head _) _ e) (v.grow g) l
 | dict d p l =>
  obtain ⟨ob,es,ep,ho,r⟩:=d
  exact .dict ⟨ob,es,ep,hk _ (.head _) _ ho,r⟩ (p.grow g) l
 | idict d p l =>
  obtain ⟨ob,es,ep,ho,r⟩:=d
  exact .idict ⟨ob,es,ep,hk _ (.head _) _ ho,r⟩ (p.grow g) l
 | tdict d e k =>
  obtain ⟨ob,es,ep,ho,c1,c2,c3,c4,c5⟩:=d
  refine .tdict ⟨ob,es,ep,hk _ (.head _) _ ho,c1,c2,c3,fun x hx=>?_,c5⟩ e fun x hx=>let ⟨j,hj,er⟩:=k x hx; ⟨j,ht j hj,g _ _ er⟩
  obtain ⟨j,hj,er⟩:=k x hx
  obtain ⟨o',items,n,e1,e2,e3,e4⟩:=c4 x hx
  exact ⟨o',items,n,hkt j _ hj er _ e1,e2,e3,e4⟩
 | inst e d q nd p lt=>exact .inst (hk _ (.head _) _ e) (hk _ (.tail _ (.head _)) _ d) q nd (p.grow g) lt
theorem Sim.keeps (S:Sim prog w ca h₀ L h ρ H X) (hk:∀ b o,h.get? b = some o→h'.get? b = some o):Sim prog w ca h₀ L h' ρ H X where
 len:=S.len
 cont:=fun i o e=>let ⟨r,hr,x⟩:=S.cont i o e; ⟨r,hr,x.at (aQ.refl _) (fun _ t=>t) (fun b _=>hk b) (fun _ r _ _=>hk r.1)⟩
 nd:=S.nd
 fresh:=fun a ha=>let ⟨⟨o,e⟩,r⟩:=S.fresh a ha; ⟨⟨o,hk _ _ e⟩,r⟩
 priv:=fun x hx=>let ⟨e,r⟩:=S.priv x hx; ⟨hk _ _ e,r⟩
 xnd:=S.xnd
theorem Sim.turn (S:Sim prog w ca h₀ L h ρ H X) {i:Nat} {r:Addr × List Addr} {o o':O} (hi:H[i]? = some o) (hnt:∀ vs,o ≠ .tuple vs) (hr:ρ[i]? = some r)
  (hag:∀ b ∈ own ρ ++ X.map (·.1),b ∉ r.1 :: r.2→∀ x,h.get? b = some x→h'.get? b = some x) (hal:∀ b ∈ r.1 :: r.2,∃ x,h'.get? b = some x)
  (hO:OR prog w ca h' ρ (cV (H.set i o')) r.1 r.2 o'):Sim prog w ca h₀ L h' ρ (H.set i o') X:=by
 have off:∀ (j:Nat) r',ρ[j]? = some r'→j ≠ i→∀ b ∈ r'.1 :: r'.2,b ∉ r.1 :: r.2:=fun j r' hj ne b hb=>zM S.nd hj hr ne b hb
 have tj:∀ j,cV H j→j ≠ i:=fun j ⟨vs,e⟩ ne=>by rw [ne,hi] at e; exact hnt vs (Option.some.inj e)
 refine ⟨by rw [List.length_set]; exact S.len,fun j x e=>?_,S.nd,fun a ha=>?_,fun x hx=>?_,S.xnd⟩
 ·clear hnt; by_cases hj:j = i
  ·subst hj
   rw [List.getElem?_set_self (List.getElem?_eq_some_iff.mp hi).1] at e
   clear hi; cases e
   exact ⟨r,hr,hO⟩
  ·rw [List.getElem?_set_ne (Ne.symm hj)] at e
   obtain ⟨r',hr',y⟩:=S.cont j x e
   refine ⟨r',hr',y.at (aQ.refl _) (fun k tk=>?_) (fun b hb=>hag b (List.mem_append_left _ (eV hr' hb)) (off j r' hr' hj b hb)) fun k rk tk ek=>hag rk.1 (List.mem_append_left _ (eV ek (.head _))) (off k rk ek (tj k tk) rk.1 (.head _))⟩
   obtain ⟨vs,e'⟩:=tk
   exact ⟨vs,by rw [List.getElem?_set_ne (Ne.symm (tj k ⟨vs,e'⟩))]; exact e'⟩
 ·obtain ⟨⟨x,e⟩,q⟩:=S.fresh a ha
  clear tj off hO hnt hi; by_cases hb:a ∈ r.1 :: r.2
  ·exact ⟨hal a hb,q⟩
  ·exact ⟨⟨x,hag a (List.mem_append_left _ ha) hb x e⟩,q⟩
 ·obtain ⟨e,q⟩:=S.priv x hx
  exact ⟨hag x.1 (List.mem_append_right _ (List.mem_map_of_mem hx)) (fun hb=>q.2.2 (eV hr hb)) _ e,q⟩
theorem Sim.new (S:Sim prog w ca h₀ L h ρ H X) {a:Addr} {as:List Addr} {o:O} (hk:∀ b x,h.get? b = some x→h'.get? b = some x)
  (hn:∀ b ∈ a :: as,(∃ x,h'.get? b = some x)∧h.get? b = none∧b ≠ L∧h₀.get? b = none∧sysModules < b) (hnd:(a :: as).Nodup)
  (hO:OR prog w ca h' (ρ ++ [(a,as)]) (cV (H ++ [o])) a as o):Sim prog w ca h₀ L h' (ρ ++ [(a,as)]) (H ++ [o]) X:=by
 have hown:own (ρ ++ [(a,as)]) = own ρ ++ (a :: as):=by unfold own; simp [List.flatMap_append]
 have hT:∀ j,cV H j→cV (H ++ [o]) j:=fun j ⟨vs,e⟩=>⟨vs,by rw [List.getElem?_append_left (List.getElem?_eq_some_iff.mp e).1]; exact e⟩
 refine ⟨by simp [S.len],fun j x e=>?_,?_,fun b hb=>?_,fun x hx=>?_,S.xnd⟩
 ·by_cases hj:j < H.length
  ·rw [List.getElem?_append_left hj] at e
   obtain ⟨r',hr',y⟩:=S.cont j x e
   exact ⟨r',aQ.app _ _ _ _ hr',y.at (aQ.app _ _) hT (fun b _=>hk b) fun _ r _ _=>hk r.1⟩
  ·have hl:j = H.length:=by
    have:=(List.getElem?_eq_some_iff.mp e).1
    simp only [List.length_append,List.length_singleton] at this
    exact Nat.le_antisymm (lin [_,_] .x .y [(.a .x (.n 1),.a .y (.n 1))] rfl this) (lin [_,_] .x .y [(.x,.y)] rfl (Nat.le_of_not_lt hj))
   clear hj hT; subst hl
   rw [List.getElem?_append_right (Nat.le_refl _),Nat.sub_self] at e
   cases e
   refine ⟨(a,as),?_,hO⟩
   rw [← S.len,List.getElem?_append_right (Nat.le_refl _),Nat.sub_self]; rfl
 ·rw [hown,List.nodup_append]
  refine ⟨S.nd,hnd,fun x hx y hy e=>?_⟩
  clear hT hO hnd; subst e
  obtain ⟨⟨z,ez⟩,_⟩:=S.fresh x hx
  rw [(hn x hy).2.1] at ez; first | exact nos ez | exact nof ez | cases ez
 ·rw [hown] at hb
  clear hT hO hnd; rcases List.mem_append.mp hb with hb | hb
  ·obtain ⟨⟨x,e⟩,q⟩:=S.fresh b hb
   exact ⟨⟨x,hk _ _ e⟩,q⟩
  ·obtain ⟨x,_,q⟩:=hn b hb
   exact ⟨x,q⟩
 ·obtain ⟨e,q1,q2,q3⟩:=S.priv x hx
  refine ⟨hk _ _ e,q1,q2,fun hb=>?_⟩
  rw [hown] at hb
  clear q2 q1 hx hT hown hO hnd hk S; rcases List.mem_append.mp hb with hb | hb
  ·exact q3 hb
  ·rw [(hn _ hb).2.1] at e; first | exact nos e | exact nof e | cases e
end
end Mine
end
section
open PySem PySem.W PyProof.Rows PySem.Calls
namespace Mine
structure Wd where
 prog:Program
 w:World
 K:Frag
 p:Program
 loose:List PySem.Str
 mean:ExcName→Option Value
 mg:PySem.Str→Option Value
 mb:PySem.Str→Option Value
 ca:Cls→Addr
 fa:F→Addr
structure Act (D:Wd) where
 A₀:Around
 base:Real
 outer:List PySem.Env
 h₀:Real
 L:Addr
 fenv:PySem.Env
 B:Below A₀ base outer h₀
 KX:D.K.In h₀
 T:Top D.p D.loose D.mean D.mg D.mb h₀
 hf:fenv.frame = some L
 hk:fenv.scope.kind = .function
noncomputable abbrev pW (D:Wd):=Sim D.prog D.w D.ca
structure St {D:Wd} (c:Act D) (m:PySem.Str→Option Value) (h:Real) (ρ:Rho) (H:Heap) (X:List (Addr × Obj)):Prop where
 fr:Fr c.h₀ c.L h m
 sim:pW D c.h₀ c.L h ρ H X
section
variable {D:Wd} {c:Act D} {m:PySem.Str→Option Value} {h h':Real} {ρ:Rho} {H:Heap} {X:List (Addr × Obj)}
theorem St.keeps (S:St c m h ρ H X) (hk:∀ b o,h.get? b = some o→h'.get? b = some o):St c m h' ρ H X:=⟨S.fr.keeps hk,S.sim.keeps hk⟩
theorem Fr.off {h₀ h h':Real} {L a:Addr} {m:PySem.Str→Option Value} (F:Fr h₀ L h m) (hL:a ≠ L) (h0:h₀.get? a = none) (hs:Heap.SameBut a h h'):Fr h₀ L h' m :=
 ⟨F.ns.sameBut hs (Ne.symm hL),fun b o e=>(hs.2 b (fun q=>by rw [q,h0] at e; cases e)).trans (F.keep b o e),F.above⟩
theorem St.turn (S:St c m h ρ H X) {i:Nat} {r:Addr × List Addr} {o o':O} {a:Addr} (hi:H[i]? = some o) (hnt:∀ vs,o ≠ .tuple vs) (hr:ρ[i]? = some r) (ha:a ∈ r.1 :: r.2)
  (hs:Heap.SameBut a h h') (hal:∃ x,h'.get? a = some x) (hO:OR D.prog D.w D.ca h' ρ (cV (H.set i o')) r.1 r.2 o'):St c m h' ρ (H.set i o') X:=by
 obtain ⟨_,hL,h0,_⟩:=S.sim.fresh a (eV hr ha)
 refine ⟨Fr.off S.fr hL h0 hs,S.sim.turn hi hnt hr (fun b _ hb x e=>(hs.2 b fun q=>hb (q ▸ ha)).trans e) (fun b hb=>?_) hO⟩
 by_cases q:b = a
 ·exact q ▸ hal
 ·obtain ⟨⟨x,e⟩,_⟩:=S.sim.fresh b (eV hr hb)
  exact ⟨x,(hs.2 b q).trans e⟩
theorem St.fresh_push (S:St c m h ρ H X) (o:Obj) (hfree:o.isFreed = false:=by rfl) :
  (∃ x,(h.push o).get? h.objs.size = some x)∧h.get? h.objs.size = none∧h.objs.size ≠ c.L∧c.h₀.get? h.objs.size = none∧sysModules < h.objs.size:=by
 have hn:h.get? h.objs.size = none:=by
  cases q:h.get? h.objs.size with
  | none=>rfl
  | some x=>exact absurd (Heap.lt_size q) (Nat.lt_irrefl _)
 refine ⟨⟨o,Heap.get?_push_size _ hfree⟩,hn,Nat.ne_of_gt S.fr.ns.lt,?_,uM S.fr c.T.nolimit⟩
 cases q:c.h₀.get? h.objs.size with
 | none=>rfl
 | some x=>rw [S.fr.keep _ _ q] at hn; first | exact nos hn | exact nof hn | cases hn
theorem St.push (S:St c m h ρ H X) {ob:Obj} {o:O} (hfree:ob.isFreed = false)
  (hO:OR D.prog D.w D.ca (h.push ob) (ρ ++ [(h.objs.size,[])]) (cV (H ++ [o])) h.objs.size [] o):St c m (h.push ob) (ρ ++ [(h.objs.size,[])]) (H ++ [o]) X:=by
 have hk:∀ b x,h.get? b = some x→(h.push ob).get? b = some x:=fun b x e=>Heap.get?_push_of_some _ e
 exact ⟨S.fr.keeps hk,S.sim.new hk (fun b hb=>by rw [List.mem_singleton.mp hb]; exact S.fresh_push ob hfree) (List.nodup_cons.mpr ⟨List.not_mem_nil,List.nodup_nil⟩) hO⟩
end
theorem iR {n:Nat} (h:n ≤ 2000):n ≤ sizeLine:=Nat.le_trans h (by decide)
section
variable {D:Wd} {c:Act D} {A:Around} {m:PySem.Str→Option Value} {s:Shared} {ρ:Rho} {H H':Heap} {X:List (Addr × Obj)} {E:Value→Shared→Prop} {Q:Value→Shared→Prop}
noncomputable abbrev cG (c:Act D) (m:PySem.Str→Option Value) (s:Shared) (ρ:Rho) (X:List (Addr × Obj)) (v:V) (H':Heap) (Q:Value→Shared→Prop):Prop :=
 ∀ h' tk' ρ' rv,St c m h' ρ' H' X→aQ ρ ρ'→VR ρ' v rv→Q rv { s with heap:=h',toks:=tk' }
theorem gW {c:Act D} {v v':V} {H1:Heap} (e:some (v',H1) = some (v,H')) (k:cG c m s ρ X v H' Q):cG c m s ρ X v' H1 Q:=by
 cases e; exact k
theorem aNa (S:St c m s.heap ρ H X) {vs:List V} {rvs:List Value} (R:VRs ρ vs rvs) (hl:vs.length ≤ 2000) (k:cG c m s ρ X (.ref H.length) (H ++ [.list vs]) Q) :
  Q (.ref s.heap.objs.size) { s with heap:=s.heap.push (cL rvs 0) }:=by
 have hr:(ρ ++ [(s.heap.objs.size,[])])[H.length]? = some (s.heap.objs.size,([]:List Addr)):=mU S.sim.len
 exact k _ s.toks _ _ (S.push rfl (.list (Heap.get?_push_size _ rfl) (R.grow (aQ.app _ _)) hl)) (aQ.app _ _) (VR.ref (r:=(s.heap.objs.size,[])) hr)
theorem jOa (S:St c m s.heap ρ H X) {vs:List V} {rvs:List Value} {v:V} (R:VRs ρ vs rvs) (e:fC vs H = some (v,H')) (k:cG c m s ρ X v H' Q) :
  wpAny (model D.prog D.w) A (newList rvs) Q E s:=by
 obtain ⟨hl,rfl,rfl⟩:=oU e
 refine wpAny_newObj_type (aNa S R (Nat.le_trans hl (by decide)) k) ?_
 show rvs.toArray.size ≤ sizeLine
 rw [List.size_toArray,R.length]
 exact iR (Nat.le_trans hl (by decide))
theorem tHa (S:St c m s.heap ρ H X) {vs:List V} {rvs:List Value} {v:V} (R:VRs ρ vs rvs) (e:rO vs H = some (v,H')) (k:cG c m s ρ X v H' Q) :
  wpAny (model D.prog D.w) A (newTuple rvs) Q E s:=by
 obtain ⟨hl,e⟩:=bD e
 have hl:=of_decide_eq_true hl
 cases e
 have hr:(ρ ++ [(s.heap.objs.size,[])])[H.length]? = some (s.heap.objs.size,([]:List Addr)):=mU S.sim.len
 refine wpAny_newObj_type (k _ s.toks _ _ (S.push rfl (.tuple (n:=0) (Heap.get?_push_size _ rfl) (R.grow (aQ.app _ _)) (Nat.le_trans hl (by decide)))) (aQ.app _ _) (VR.ref (r:=(s.heap.objs.size,[])) hr)) ?_
 show rvs.toArray.size ≤ sizeLine
 rw [List.size_toArray,R.length]
 exact iR (Nat.le_trans hl (by decide))
end
end Mine
end
section
open PySem PySem.W PyProof.Rows PySem.Calls
namespace Mine
noncomputable def pB (h:Real) (as:List Addr):List (Addr × Obj):=as.filterMap fun a=>(h.get? a).map fun o=>(a,o)
theorem iQ {h:Real} {as:List Addr} {a:Addr} {o:Obj}:(a,o) ∈ pB h as ↔ a ∈ as∧h.get? a = some o:=by
 unfold pB
 rw [List.mem_filterMap]
 constructor
 ·rintro ⟨b,hb,e⟩
  cases q:h.get? b with
  | none=>rw [q] at e; first | exact nos e | exact nof e | cases e
  | some x=>rw [q] at e; cases e; exact ⟨hb,q⟩
 ·rintro ⟨ha,e⟩
  exact ⟨a,ha,by rw [e]; rfl⟩
noncomputable abbrev mine (ρ:Rho) (X:List (Addr × Obj)):List Addr:=own ρ ++ X.map (·.1)
section
variable {D:Wd} {c:Act D} {A:Around} {m m':PySem.Str→Option Value} {h h':Real} {s:Shared} {ρ:Rho} {H H':Heap} {X:List (Addr × Obj)} {E:Value→Shared→Prop} {Q:Value→Shared→Prop}
theorem St.news (S:St c m h ρ H X):News c.h₀ c.L h (pB h (mine ρ X)):=by
 rintro ⟨a,o⟩ hp
 obtain ⟨ha,e⟩:=iQ.mp hp
 clear hp; rcases List.mem_append.mp ha with ha | ha
 ·obtain ⟨_,q1,q2,_⟩:=S.sim.fresh a ha
  exact ⟨e,q1,q2⟩
 ·obtain ⟨x,hx,rfl⟩:=List.mem_map.mp ha
  obtain ⟨_,q1,q2,_⟩:=S.sim.priv x hx
  exact ⟨e,q1,q2⟩
theorem St.here (S:St c m h ρ H X) {a:Addr} (ha:a ∈ mine ρ X):∃ o,h.get? a = some o:=by
 rcases List.mem_append.mp ha with ha | ha
 ·exact (S.sim.fresh a ha).1
 ·obtain ⟨x,hx,rfl⟩:=List.mem_map.mp ha
  exact ⟨_,(S.sim.priv x hx).1⟩
theorem Sim.carry {h₀ h₁:Real} {L L₁:Addr} (S:pW D h₀ L h ρ H X) (hk:∀ a ∈ mine ρ X,∀ o,h.get? a = some o→h'.get? a = some o) (hf:∀ a ∈ mine ρ X,a ≠ L₁∧h₁.get? a = none):pW D h₁ L₁ h' ρ H X where
 len:=S.len
 cont:=fun i o e=>by
  obtain ⟨r,hr,x⟩:=S.cont i o e
  exact ⟨r,hr,x.at (aQ.refl _) (fun _ t=>t) (fun b hb=>hk b (List.mem_append_left _ (eV hr hb))) fun k rk _ ek=>hk rk.1 (List.mem_append_left _ (eV ek (.head _)))⟩
 nd:=S.nd
 fresh:=fun a ha=>by
  refine cps fun G_ g_=>?_
  obtain ⟨⟨o,e⟩,_,_,q⟩:=S.fresh a ha
  obtain ⟨f1,f2⟩:=hf a (List.mem_append_left _ ha)
  refine g_ ?_
  clear g_
  exact ⟨⟨o,hk a (List.mem_append_left _ ha) o e⟩,f1,f2,q⟩
 priv:=fun x hx=>by
  refine cps fun G_ g_=>?_
  obtain ⟨e,_,_,q⟩:=S.priv x hx
  have hm:x.1 ∈ mine ρ X:=List.mem_append_right _ (List.mem_map_of_mem hx)
  obtain ⟨f1,f2⟩:=hf x.1 hm
  refine g_ ?_
  clear g_
  exact ⟨hk x.1 hm _ e,f1,f2,q⟩
 xnd:=S.xnd
theorem St.again (S:St c m h ρ H X) (F':Fr c.h₀ c.L h' m') {l:List (Addr × Obj)} (N':News c.h₀ c.L h' l) (hs:∀ p ∈ pB h (mine ρ X),p ∈ l):St c m' h' ρ H X:=by
 have key:∀ a ∈ mine ρ X,∀ o,h.get? a = some o→(a,o) ∈ l:=fun a ha o e=>hs _ (iQ.mpr ⟨ha,e⟩)
 refine ⟨F',S.sim.carry (fun a ha o e=>(N' _ (key a ha o e)).1) fun a ha=>?_⟩
 obtain ⟨o,e⟩:=S.here ha
 exact (N' _ (key a ha o e)).2
theorem Sim.add {h₀:Real} {L:Addr} (S:pW D h₀ L h ρ H X) {a:Addr} {as:List Addr} {o:O}
  (hn:∀ b ∈ a :: as,(∃ x,h.get? b = some x)∧b ∉ mine ρ X∧b ≠ L∧h₀.get? b = none∧sysModules < b) (hnd:(a :: as).Nodup)
  (hO:OR D.prog D.w D.ca h (ρ ++ [(a,as)]) (cV (H ++ [o])) a as o):pW D h₀ L h (ρ ++ [(a,as)]) (H ++ [o]) X:=by
 have hown:own (ρ ++ [(a,as)]) = own ρ ++ (a :: as):=by unfold own; simp [List.flatMap_append]
 have hT:∀ j,cV H j→cV (H ++ [o]) j:=fun j ⟨vs,e⟩=>⟨vs,by rw [List.getElem?_append_left (List.getElem?_eq_some_iff.mp e).1]; exact e⟩
 refine ⟨by simp [S.len],fun j x e=>?_,?_,fun b hb=>?_,fun x hx=>?_,S.xnd⟩
 ·by_cases hj:j < H.length
  ·rw [List.getElem?_append_left hj] at e
   obtain ⟨r',hr',y⟩:=S.cont j x e
   exact ⟨r',aQ.app _ _ _ _ hr',y.at (aQ.app _ _) hT (fun b _ _ e=>e) fun _ r _ _ _ e=>e⟩
  ·have hl:j = H.length:=by
    have:=(List.getElem?_eq_some_iff.mp e).1
    simp only [List.length_append,List.length_singleton] at this
    exact Nat.le_antisymm (lin [_,_] .x .y [(.a .x (.n 1),.a .y (.n 1))] rfl this) (lin [_,_] .x .y [(.x,.y)] rfl (Nat.le_of_not_lt hj))
   clear hj hT; subst hl
   rw [List.getElem?_append_right (Nat.le_refl _),Nat.sub_self] at e
   cases e
   refine ⟨(a,as),?_,hO⟩
   rw [← S.len,List.getElem?_append_right (Nat.le_refl _),Nat.sub_self]; rfl
 ·rw [hown,List.nodup_append]
  refine ⟨S.nd,hnd,fun x hx y hy e=>?_⟩
  clear hT hO hnd; subst e
  exact (hn x hy).2.1 (List.mem_append_left _ hx)
 ·rw [hown] at hb
  clear hT hO hnd; rcases List.mem_append.mp hb with hb | hb
  ·exact S.fresh b hb
  ·obtain ⟨x,_,q⟩:=hn b hb
   exact ⟨x,q⟩
 ·obtain ⟨e,q1,q2,q3⟩:=S.priv x hx
  refine ⟨e,q1,q2,fun hb=>?_⟩
  rw [hown] at hb
  clear q2 q1 e hT hown hO hnd S; rcases List.mem_append.mp hb with hb | hb
  ·exact q3 hb
  ·exact (hn _ hb).2.1 (List.mem_append_right _ (List.mem_map_of_mem hx))
theorem St.laid (S:St c m s.heap ρ H X) {h':Real} {ob:Obj} {o:O} {tk:Nat} {v:V} (F':Fr c.h₀ c.L h' m) (N':News c.h₀ c.L h' ((s.heap.objs.size,ob) :: pB s.heap (mine ρ X)))
  (hO:∀ ρ',ρ' = ρ ++ [(s.heap.objs.size,([]:List Addr))]→h'.get? s.heap.objs.size = some ob→OR D.prog D.w D.ca h' ρ' (cV (H ++ [o])) s.heap.objs.size [] o) (hv:v = .ref H.length)
  (k:cG c m s ρ X v (H ++ [o]) Q):Q (.ref s.heap.objs.size) { s with heap:=h',toks:=tk }:=by
 subst hv
 have S':=S.again F' N' fun p hp=>.tail _ hp
 obtain ⟨e,n1,n2⟩:=N' _ (.head _)
 have hn:s.heap.get? s.heap.objs.size = none:=by
  clear N'; cases q:s.heap.get? s.heap.objs.size with
  | none=>rfl
  | some x=>exact absurd (Heap.lt_size q) (Nat.lt_irrefl _)
 have hr:(ρ ++ [(s.heap.objs.size,[])])[H.length]? = some (s.heap.objs.size,([]:List Addr)):=mU S.sim.len
 refine k h' tk _ _ ⟨F',S'.sim.add (fun b hb=>?_) (List.nodup_cons.mpr ⟨List.not_mem_nil,List.nodup_nil⟩) (hO _ rfl e)⟩ (aQ.app _ _) (VR.ref (r:=(s.heap.objs.size,[])) hr)
 rw [List.mem_singleton.mp hb]
 refine ⟨⟨_,e⟩,fun hm=>?_,n1,n2,uM S.fr c.T.nolimit⟩
 obtain ⟨x,ex⟩:=S.here hm
 rw [hn] at ex; first | exact nos ex | exact nof ex | cases ex
inductive bMa (D:Wd) (h:Real) (ρ:Rho) (H:Heap) (a:Nat) (rv:Value) (o:O):Prop where
 | mk (b:Addr) (as:List Addr):rv = .ref b→ρ[a]? = some (b,as)→OR D.prog D.w D.ca h ρ (cV H) b as o→bMa D h ρ H a rv o
inductive dRa (h:Real) (ρ:Rho) (vs:List V) (rv:Value):Prop where
 | mk (b:Addr) (rvs:List Value) (n:Nat):rv = .ref b→h.get? b = some (cL rvs n)→VRs ρ vs rvs→vs.length ≤ 2000→dRa h ρ vs rv
theorem St.look (S:St c m h ρ H X) {a:Nat} {rv:Value} {o:O} (hv:VR ρ (.ref a) rv) (e:H[a]? = some o):bMa D h ρ H a rv o:=by
 cases hv with
 | @ref _ r ex =>
 obtain ⟨r1,q1,o1⟩:=S.sim.cont _ _ e
 rw [ex] at q1
 clear e S; cases q1
 exact ⟨r.1,r.2,rfl,ex,o1⟩
theorem St.lst (S:St c m h ρ H X) {v:V} {rv:Value} {vs:List V} (hv:VR ρ v rv) (e:listAt H v = some vs):dRa h ρ vs rv:=by
 refine cps fun G_ g_=>?_
 obtain ⟨a,rfl,e'⟩:=listAt_eq e
 clear e; obtain ⟨b,as,rfl,_,o⟩:=S.look hv e'
 refine g_ ?_
 clear g_
 clear hv e' S; cases o with
 | list g r l=>exact ⟨b,_,_,rfl,g,r,l⟩
theorem tOa (S:St c m s.heap ρ H X) {op:Operator} {x y z:Int} {t u:Tok} (e:intOp op x y = some z) (k:cG c m s ρ X (.int z) H Q):wpAny (model D.prog D.w) A (binaryOp op (.int x t) (.int y u)) Q E s:=by
 have same:∀ (rv:Value) (tk:Nat),VR ρ (.int z) rv→Q rv { s with toks:=tk }:=fun rv tk hv=>k s.heap tk ρ rv S (aQ.refl _) hv
 clear k S; cases op with
 | Add=>cases e; exact add_int (same _ _ (.int _ _))
 | Sub=>cases e; exact sub_int (same _ _ (.int _ _))
 | Mult =>
  obtain ⟨hb,e⟩:=bD e
  cases e
  have ha:=of_decide_eq_true (Bool.and_eq_true_iff.mp hb).1
  exact P.mul_int (same _ _ (.int _ _)) (IntMulOk.of_left (intBits_le_64 (by exact (zI_ ha).1) (zI_ ha).2))
 | Mod =>
  obtain ⟨hb,e⟩:=bD e
  cases e
  have hb:=of_decide_eq_true hb
  exact mod_int' (by exact Int.ne_of_gt hb) (same _ _ (.int _ _))
 | FloorDiv =>
  obtain ⟨hb,e⟩:=bD e
  cases e
  have hb:=of_decide_eq_true hb
  exact floordiv_int (by exact Int.ne_of_gt hb.1) (same _ _ (.int _ _)) (.inl (PyProof.noPylong_small (vQ (Int.le_of_lt hb.1) hb.2 (by decide))))
 | Pow =>
  obtain ⟨hb,e⟩:=bD e
  cases e
  obtain ⟨rfl,h1,h2⟩:=of_decide_eq_true hb
  exact pow_int_small h1 (by exact Int.le_of_lt (Int.lt_trans h2 (by decide))) (by decide) (same _ _ (.int _ _))
 | RShift =>
  obtain ⟨hb,e⟩:=bD e
  cases e
  exact rshift_int (of_decide_eq_true hb).2.2.1 (same _ _ (.int _ _))
 | BitAnd =>
  obtain ⟨hb,e⟩:=bD e
  cases e
  obtain ⟨h1,h2,rfl⟩:=of_decide_eq_true hb
  refine and_int (same _ _ ?_)
  rw [bitAnd_m1,Int.fmod_eq_emod_of_nonneg _ (by decide)]
  exact .int _ _
 | _=>first | exact nos e | exact nof e | cases e
theorem jDa (S:St c m s.heap ρ H X) {x y v:V} {rx ry:Value} (hx:VR ρ x rx) (hy:VR ρ y ry) (e:zO x y H = some (v,H')) (k:cG c m s ρ X v H' Q):wpAny (model D.prog D.w) A (binaryOp .Add rx ry) Q E s:=by
 cases x with
 | str x =>
  obtain ⟨y',ey,e⟩:=bind_eq e
  obtain ⟨hl,e⟩:=bD e
  cases e
  cases nH ey
  clear ey; cases hx; first | exact nos hy | exact nof hy | cases hy
  exact SB.add (fun t' tk=>k s.heap tk ρ _ S (aQ.refl _) (.str _ _)) (of_decide_eq_true hl)
 | ref x =>
  refine cps fun G_ g_=>?_
  obtain ⟨vs,e1,e⟩:=bind_eq e
  obtain ⟨us,e2,e⟩:=bind_eq e
  obtain ⟨hl,rfl,rfl⟩:=oU e
  obtain ⟨a1,r1,n1,rfl,g1,v1,l1⟩:=S.lst hx (show listAt H (.ref x) = some vs from e1)
  clear hx l1 e1; obtain ⟨a2,r2,n2,rfl,g2,v2,l2⟩:=S.lst hy e2
  refine g_ ?_
  clear g_
  rw [List.length_append] at hl
  refine add_arrays S.fr S.news ⟨_,g1,rfl,_,rfl⟩ ⟨_,g2,rfl,_,rfl⟩ (fun h' F' N'=>S.laid (o:=.list (vs ++ us)) (tk:=s.toks) F' N' (fun ρ' eρ g=>?_) rfl k) ?_
  ·clear N' F' hy l2 g2 g1 k e2 S; subst eρ
   exact .list g ((v1.append v2).grow (aQ.app _ _)) (by rw [List.length_append]; exact lin [_,_] (.a .x .y) (.n 2000) [(.a .x .y,.n 1000)] rfl hl)
  ·have h1:=v1.length
   have h2:=v2.length
   simp only [List.size_toArray]
   exact iR (by exact lin [_,_,_,_] (.a .x .y) (.n 2000) [(.x,.z),(.y,.w),(.a .z .w,.n 1000)] rfl (Nat.le_of_eq h1) (Nat.le_of_eq h2) hl)
 | _=>first | exact nos e | exact nof e | cases e
theorem kFa (S:St c m s.heap ρ H X) {op:Operator} {x y v:V} {rx ry:Value} (hx:VR ρ x rx) (hy:VR ρ y ry) (e:iH op x y H = some (v,H')) (k:cG c m s ρ X v H' Q) :
  wpAny (model D.prog D.w) A (binaryOp op rx ry) Q E s:=by
 have add:∀ {x:V},VR ρ x rx→aP (eKa op) (zO x y H) = some (v,H')→wpAny (model D.prog D.w) A (binaryOp op rx ry) Q E s:=fun hx e=>by
  obtain ⟨h,e⟩:=bD e
  cases op <;> first | exact jDa S hx hy e k | exact nos h | exact nof h | cases h
 cases x with
 | int x =>
  obtain ⟨y',ey,e⟩:=bind_eq e
  obtain ⟨z,ez,e⟩:=bind_eq e
  cases e
  cases iZ ey
  clear ey; cases hx; first | exact nos hy | exact nof hy | cases hy
  exact tOa S ez k
 | none=>exact add hx e
 | bool _=>exact add hx e
 | str _=>exact add hx e
 | ref _=>exact add hx e
end
end Mine
end
section
open PySem PySem.W PyProof.Rows PySem.Calls
namespace Mine
theorem bIa {α:Type} [DecidableEq α] (x y:α):decide (x = y) = (x == y):=rfl
theorem VRs.strs {ρ:Rho} {vs:List V} {rvs:List Value} (h:VRs ρ vs rvs) (a:vs.all qD = true):∃ ys:List PySem.Str,StrsAre rvs ys∧vs = ys.map V.str:=by
 induction h with
 | nil=>exact ⟨[],.nil,rfl⟩
 | cons h _ ih =>
  rw [List.all_cons,Bool.and_eq_true] at a
  obtain ⟨ys,hy,e⟩:=ih a.2
  clear ih; cases h with
  | str s t=>exact ⟨s :: ys,.cons _ _ hy,by rw [e]; rfl⟩
  | none=>cases a.1
  | bool b=>cases a.1
  | int i t=>cases a.1
  | ref r=>cases a.1
theorem VRs.ints {ρ:Rho} {vs:List V} {rvs:List Value} (h:VRs ρ vs rvs) (a:vs.all sO = true):∃ ys:List Int,IntsAre rvs ys∧vs = ys.map V.int:=by
 induction h with
 | nil=>exact ⟨[],.nil,rfl⟩
 | cons h _ ih =>
  rw [List.all_cons,Bool.and_eq_true] at a
  obtain ⟨ys,hy,e⟩:=ih a.2
  clear ih; cases h with
  | int i t=>exact ⟨i :: ys,.cons _ _ hy,by rw [e]; rfl⟩
  | none=>cases a.1
  | bool b=>cases a.1
  | str i t=>cases a.1
  | ref r=>cases a.1
theorem iCa (s:PySem.Str) (ys:List PySem.Str):ys.any (· == s) = (ys.map V.str).any (isS s):=by
 induction ys with
 | nil=>rfl
 | cons y r ih=>rw [List.any_cons,ih]; rfl
theorem mMa (s:Int) (ys:List Int):ys.any (· == s) = (ys.map V.int).any (isI s):=by
 induction ys with
 | nil=>rfl
 | cons y r ih=>rw [List.any_cons,ih]; rfl
theorem PR.find {K:Type} [DecidableEq K] {ρ:Rho} {es:List (K × V)} {kvs:List (K × Value)} (h:PR ρ es kvs) (k:K) :
  (look k es = none∧valueAt kvs k = none) ∨ ∃ v rv,look k es = some v∧valueAt kvs k = some rv∧VR ρ v rv:=by
 induction h with
 | nil=>exact .inl ⟨rfl,rfl⟩
 | @cons k' v rv es kvs h _ ih =>
  rw [mH]
  unfold valueAt
  rw [List.find?_cons]
  by_cases e:k' = k
  ·rw [if_pos e,show (decide (k' = k)) = true from decide_eq_true e]
   exact .inr ⟨v,rv,rfl,rfl,h⟩
  ·rw [if_neg e,show (decide (k' = k)) = false from decide_eq_false e]
   exact ih
theorem PR.keys {K:Type} {ρ:Rho} {es:List (K × V)} {kvs:List (K × Value)} (h:PR ρ es kvs):kvs.map (·.1) = es.map (·.1):=by
 induction h with
 | nil=>rfl
 | cons _ _ ih=>simp [ih]
theorem PR.length {K:Type} {ρ:Rho} {es:List (K × V)} {kvs:List (K × Value)} (h:PR ρ es kvs):kvs.length = es.length:=by
 induction h with
 | nil=>rfl
 | cons _ _ ih=>simp [ih]
theorem jF (prog:Program) (w:World) (s:PySem.Str) (t:Tok):(strKind prog w).is s (.str s t) = true:=strKind_is prog w s t
theorem rC (prog:Program) (w:World) (s:Int) (t:Tok):(intKind prog w).is s (.int s t) = true:=intKind_is prog w s t
section
variable {D:Wd} {c:Act D} {A:Around} {m:PySem.Str→Option Value} {s:Shared} {ρ:Rho} {H:Heap} {X:List (Addr × Obj)} {E:Value→Shared→Prop} {Q:Value→Shared→Prop}
theorem St.low (S:St c m s.heap ρ H X) {a:Nat} {b:Addr} {as:List Addr} (h:ρ[a]? = some (b,as)):(b == sysModules) = false:=beq_eq_false_iff_ne.mpr (Nat.ne_of_gt (S.sim.fresh b (eV h (.head _))).2.2.2)
theorem bDa (S:St c m s.heap ρ H X) (hu:A.units < cLine) {x y:V} {rx ry:Value} (hx:VR ρ x rx) (hy:VR ρ y ry) {b:Bool} (e:eqV x y H = some b) :
  SeqAt.RcAt A s rx ry b∧SeqAt.RcNeAt A s rx ry (!b):=by
 cases x with
 | none=>first | exact nos e | exact nof e | cases e
 | int x =>
  obtain ⟨y',ey,rfl⟩:=map_eq e
  cases iZ ey
  cases hx; first | exact nos hy | exact nof hy | cases hy
  rw [bIa]
  exact ⟨SeqAt.RcAt.int_int _ _ _ _,SeqAt.RcNeAt.int_int _ _ _ _⟩
 | str x =>
  obtain ⟨y',ey,rfl⟩:=map_eq e
  cases nH ey
  cases hx; first | exact nos hy | exact nof hy | cases hy
  rw [bIa]
  exact ⟨SeqAt.RcAt.str_str _ _ _ _,SeqAt.RcNeAt.str_str _ _ _ _⟩
 | bool x =>
  obtain ⟨y',ey,rfl⟩:=map_eq e
  cases eGa ey
  clear ey; cases hx; first | exact nos hy | exact nof hy | cases hy
  exact ⟨SeqAt.RcAt.bool_bool _ _,SeqAt.RcNeAt.bool_bool _ _⟩
 | ref x =>
  refine cps fun G_ g_=>?_
  obtain ⟨vs,e1,e⟩:=bind_eq e
  obtain ⟨us,e2,e⟩:=bind_eq e
  obtain ⟨hn,e⟩:=bD e
  refine g_ ?_
  clear g_
  cases e
  refine cps fun G_ g_=>?_
  obtain ⟨a1,r1,n1,rfl,g1,v1,l1⟩:=S.lst hx (show listAt H (.ref x) = some vs from e1)
  clear hx l1 e1; obtain ⟨a2,r2,n2,rfl,g2,v2,l2⟩:=S.lst hy e2
  refine g_ ?_
  clear g_
  clear hy l2 e2 S; cases us with
  | cons _ _=>first | exact nos hn | exact nof hn | cases hn
  | nil =>
   clear hn; cases v2
   cases v1 with
   | nil=>exact ⟨SeqAt.RcAt.lists (A:=A) (s:=s) (e:=fun _=>true) ⟨_,g1,rfl,_,rfl⟩ ⟨_,g2,rfl,_,rfl⟩ rfl hu (fun j h1 _=>absurd h1 (Nat.not_lt_zero j)),
     SeqAt.RcNeAt.lists (A:=A) (s:=s) (e:=fun _=>true) ⟨_,g1,rfl,_,rfl⟩ ⟨_,g2,rfl,_,rfl⟩ rfl hu (fun j h1 _=>absurd h1 (Nat.not_lt_zero j))⟩
   | cons h t=>exact ⟨SeqAt.RcAt.lists_lengths ⟨_,g1,rfl,_,rfl⟩ ⟨_,g2,rfl,_,rfl⟩ rfl hu,SeqAt.RcNeAt.lists_lengths ⟨_,g1,rfl,_,rfl⟩ ⟨_,g2,rfl,_,rfl⟩ rfl hu⟩
noncomputable abbrev InP (D:Wd) (A:Around) (s:Shared) (rx ry:Value) (b:Bool):Prop :=
 (∀ Q E,(∀ tk,Q (.bool b) { s with toks:=tk })→wpAny (model D.prog D.w) A (compareOp .In rx ry) Q E s)∧(∀ Q E,(∀ tk,Q (.bool !b) { s with toks:=tk })→wpAny (model D.prog D.w) A (compareOp .NotIn rx ry) Q E s)
theorem in_dict {K:Type} [DecidableEq K] {knd:KeyKind D.prog D.w K} (S:St c m s.heap ρ H X) {a:Nat} {b:Addr} {as:List Addr} (q:ρ[a]? = some (b,as)) {k:K} {rk:Value} (hk:knd.is k rk = true) {es:List (K × V)} {kvs:List (K × Value)} (d:s.heap.DictOf knd b kvs) (p:PR ρ es kvs) :
  InP D A s rk (.ref b) (look k es).isSome:=by
 have hv:(valueAt kvs k).isSome = (look k es).isSome:=by
  rcases p.find k with ⟨h1,h2⟩ | ⟨v,rv,h1,h2,_⟩ <;> rw [h1,h2] <;> rfl
 rw [← hv]
 exact ⟨fun Q E k=>wpAny_in_of hk (S.low q) d.mapOf (k _),fun Q E kn=>wpAny_notIn_of hk (S.low q) d.mapOf (kn _)⟩
theorem iNa {prog:Program} {w:World} {K K':Type} [DecidableEq K] [DecidableEq K'] {knd:KeyKind prog w K} {knd':KeyKind prog w K'} {h:Real} {a:Addr} (d:h.DictOf knd a []):h.DictOf knd' a []:=by
 refine cps fun G_ g_=>?_
 obtain ⟨ob,es,ep,ho,hc,hd,_,hp,hn⟩:=d
 refine g_ ?_
 clear g_
 clear hn; cases hes:es.toList with
 | nil=>exact ⟨ob,es,ep,ho,hc,hd,fun x hx=>(by have:=Array.mem_toList_iff.mpr hx; rw [hes] at this; cases this),by rw [hes]; exact .nil,List.nodup_nil⟩
 | cons x r=>rw [hes] at hp; first | exact nos hp | exact nof hp | cases hp
theorem gTa (S:St c m s.heap ρ H X) {x y:V} {rx ry:Value} (hx:VR ρ x rx) (hy:VR ρ y ry) {b:Bool} (e:isIn x y H = some b):InP D A s rx ry b:=by
 obtain ⟨a,ea,e'⟩:=bind_eq e
 cases iD ea
 clear e
 have e:=e'
 clear e'
 clear ea; cases ho:H[a]? with
 | none=>rw [ho] at e; cases x <;> cases e
 | some o =>
  rw [ho] at e
  obtain ⟨a1,as1,rfl,q1,o1⟩:=S.look hy ho
  clear ho; cases x with
  | str s' =>
   cases hx
   cases o1 with
   | dict d p l=>cases e; exact in_dict S q1 (jF _ _ _ _) d p
   | list g v l =>
    obtain ⟨ha,e⟩:=bD e
    cases e
    obtain ⟨ys,hs,rfl⟩:=v.strs ha
    rw [← iCa s' ys]
    exact ⟨fun Q E k=>in_list_strs ⟨_,g,rfl,_,rfl⟩ hs (k _),fun Q E kn=>notin_list_strs ⟨_,g,rfl,_,rfl⟩ hs (kn _)⟩
   | @tuple _ rvs n g v l =>
    obtain ⟨ha,e⟩:=bD e
    cases e
    obtain ⟨ys,hs,rfl⟩:=v.strs ha
    have hk:(rvs.toArray).any (isStrOf s') = (ys.map V.str).any (isS s'):=by rw [← Array.any_toList]; exact (any_isStrOf s' hs).trans (iCa s' ys)
    rw [← hk]
    exact ⟨fun Q E k=>SeqAt.in_tupleAt (isStrOf s') ⟨_,g,rfl,_,rfl⟩ (fun y hy=>(eq_isStrOf s' _ hs y (by simpa using hy)).at _ _) (k _),fun Q E kn=>SeqAt.notIn_tupleAt (isStrOf s') ⟨_,g,rfl,_,rfl⟩ (fun y hy=>(eq_isStrOf s' _ hs y (by simpa using hy)).at _ _) (kn _)⟩
   | idict _ _ _=>first | exact nos e | exact nof e | cases e
   | tdict _ _ _=>first | exact nos e | exact nof e | cases e
   | inst _ _ _ _ _ _=>first | exact nos e | exact nof e | cases e
  | int s' =>
   clear hy; cases hx
   cases o1 with
   | idict d p l=>cases e; exact in_dict S q1 (rC _ _ _ _) d p
   | dict d p l =>
    obtain ⟨ha,e⟩:=bD e
    cases e
    cases p with
    | nil=>exact in_dict (es:=[]) S q1 (rC _ _ _ _) (iNa d) .nil
    | cons _ _=>first | exact nos ha | exact nof ha | cases ha
   | list g v l =>
    obtain ⟨ha,e⟩:=bD e
    clear q1 l S; cases e
    obtain ⟨ys,hs,rfl⟩:=v.ints ha
    rw [← mMa s' ys]
    exact ⟨fun Q E k=>in_list_ints ⟨_,g,rfl,_,rfl⟩ hs (k _),fun Q E kn=>notin_list_ints ⟨_,g,rfl,_,rfl⟩ hs (kn _)⟩
   | tuple _ _ _=>first | exact nos e | exact nof e | cases e
   | tdict _ _ _=>first | exact nos e | exact nof e | cases e
   | inst _ _ _ _ _ _=>first | exact nos e | exact nof e | cases e
  | _=>first | exact nos e | exact nof e | cases e
theorem oBa {v:V} {rv:Value} (h:VR ρ v rv):isNone v = (rv == .none):=by cases h <;> rfl
theorem wG (S:St c m s.heap ρ H X) (hu:A.units < cLine) {op:CmpOp} {x y:V} {rx ry:Value} (hx:VR ρ x rx) (hy:VR ρ y ry) {b:Bool} (e:lL op x y H = some b) (k:∀ tk,Q (.bool b) { s with toks:=tk }) :
  wpAny (model D.prog D.w) A (compareOp op rx ry) Q E s:=by
 have ord:∀ {p:Int→Int→Bool},rY p x y = some b→∃ i t j u,rx = .int i t∧ry = .int j u∧b = p i j:=by
  intro p h
  obtain ⟨i,ei,h⟩:=bind_eq h
  obtain ⟨j,ej,rfl⟩:=map_eq h
  cases iZ ei
  clear ei; cases iZ ej
  clear ej; cases hx; first | exact nos hy | exact nof hy | cases hy
  exact ⟨_,_,_,_,rfl,rfl,rfl⟩
 have nn:∀ {b},yP y x = some b→ry = .none∧b = (rx == .none):=by
  intro b h
  obtain ⟨h1,h⟩:=bD h
  cases h
  clear h; cases gZa h1
  clear h1; cases hy
  exact ⟨rfl,oBa hx⟩
 cases op with
 | Eq=>exact EqBoolInt.of_rc (bDa S hu hx hy e).1 (k _)
 | NotEq =>
  obtain ⟨b',e',rfl⟩:=map_eq e
  exact EqBoolInt.of_rcne (bDa S hu hx hy e').2 (k _)
 | Is =>
  clear hu; obtain ⟨rfl,rfl⟩:=nn e
  exact is_none (k _)
 | IsNot =>
  clear hu; obtain ⟨b',e',rfl⟩:=map_eq e
  obtain ⟨rfl,rfl⟩:=nn e'
  exact isNot_none (k _)
 | In=>exact (gTa S hx hy e).1 _ _ k
 | NotIn =>
  clear nn hu; obtain ⟨b',e',rfl⟩:=map_eq e
  exact (gTa S hx hy e').2 _ _ k
 | Lt =>
  clear nn hy hx hu S; obtain ⟨i,t,j,u,rfl,rfl,rfl⟩:=ord e
  exact P.lt_int (k _)
 | LtE =>
  clear nn hy hx hu S; obtain ⟨i,t,j,u,rfl,rfl,rfl⟩:=ord e
  exact P.le_int (k _)
 | Gt =>
  clear nn hy hx hu S; obtain ⟨i,t,j,u,rfl,rfl,rfl⟩:=ord e
  exact P.gt_int (k _)
 | GtE =>
  clear nn hy hx hu S; obtain ⟨i,t,j,u,rfl,rfl,rfl⟩:=ord e
  exact P.ge_int (k _)
end
end Mine
end
section
open PySem PySem.W PyProof.Rows PySem.Calls
namespace Mine
noncomputable def kOk (K:Frag) (C:Addr) (n:PySem.Str):Bool :=
 plainGet K C n && hasDictIn K C && (findIn K (.ref C) n).any (noGet K) && findIn K (.ref C) "__setattr__" == some (some (.builtin "object.__setattr__")) && plainOver K C && takerIn K C n == some none
theorem uO {prog:Program} {w:World} (x:PySem.Str):∀ {es:List DictEntry} {kvs:List (PySem.Str × Value)},Pairs (strKind prog w) es kvs→getL x es = some (valueAt kvs x)
 | _,_,.nil=>rfl
 | _,_,@Pairs.cons _ _ _ _ _ e kv es kvs hk hv hp=>by
  obtain ⟨t,ht⟩:=Value.isStrOf_shape hk
  have ih:=uO x hp
  unfold getL valueAt at ih ⊢
  rw [List.find?_cons,List.find?_cons]
  have e1:e.key.isStr x = decide (kv.1 = x):=by rw [ht]; rfl
  rw [e1]
  by_cases h:kv.1 = x
  ·rw [decide_eq_true h]
   simp only [Option.map_some,hv]
  ·rw [decide_eq_false h]
   simp only
   have e2:e.refKey = false:=by unfold DictEntry.refKey; rw [ht]
   simp only [List.any_cons,e2,Bool.false_or]
   exact ih
noncomputable def lX {K:Type} [DecidableEq K] (x:K) (v:Value):List (K × Value)→List (K × Value)
 | []=>[(x,v)]
 | (k,u) :: r=>if k = x then (k,v) :: r else (k,u) :: lX x v r
theorem tZ {K:Type} [DecidableEq K] {x k:K} {v u:Value} {r:List (K × Value)}:lX x v ((k,u) :: r) = if k = x then (k,v) :: r else (k,u) :: lX x v r:=rfl
theorem PR.put {K:Type} [DecidableEq K] {ρ:Rho} {es:List (K × V)} {kvs:List (K × Value)} (h:PR ρ es kvs) {v:V} {rv:Value} (k:VR ρ v rv) (x:K):PR ρ (put x v es) (lX x rv kvs):=by
 induction h with
 | nil=>exact .cons k .nil
 | @cons k' v' rv' es kvs h t ih =>
  rw [jQ,tZ]
  by_cases e:k' = x
  ·rw [if_pos e,if_pos e]; exact .cons k t
  ·rw [if_neg e,if_neg e]; exact .cons h ih
theorem fXa {K:Type} [DecidableEq K] (x:K) (v:Value):∀ kvs:List (K × Value),(lX x v kvs).map (·.1) = if x ∈ kvs.map (·.1) then kvs.map (·.1) else kvs.map (·.1) ++ [x]
 | []=>rfl
 | (k,u) :: r=>by
  rw [tZ]
  by_cases e:k = x
  ·subst e; simp
  ·rw [if_neg e,List.map_cons,fXa x v r,List.map_cons]
   by_cases h:x ∈ r.map (·.1)
   ·rw [if_pos h,if_pos (List.mem_cons_of_mem _ h)]
   ·rw [if_neg h,if_neg (by simp only [List.mem_cons,not_or]; exact ⟨fun q=>e q.symm,h⟩)]
    rfl
theorem iSa {K:Type} [DecidableEq K] {x:K} {v:Value} {kvs:List (K × Value)} (h:(kvs.map (·.1)).Nodup):((lX x v kvs).map (·.1)).Nodup:=by
 rw [fXa]
 split
 ·exact h
 ·rename_i hx
  rw [List.nodup_append]
  exact ⟨h,List.nodup_cons.mpr ⟨List.not_mem_nil,List.nodup_nil⟩,fun a ha b hb e=>hx (by rw [List.mem_singleton.mp hb] at e; exact e ▸ ha)⟩
theorem vW {K:Type} [DecidableEq K] (x:K) (v:Value):∀ {kvs:List (K × Value)},(kvs.map (·.1)).Nodup→stored kvs x v = lX x v kvs
 | [],_=>rfl
 | (k,u) :: r,hn=>by
  rw [List.map_cons,List.nodup_cons] at hn
  have ih:=vW x v hn.2
  unfold stored at ih ⊢
  rw [tZ]
  by_cases e:k = x
  ·subst e
   rw [if_pos rfl]
   simp only [List.any_cons,decide_true,Bool.true_or,if_true,List.map_cons]
   congr 1
   rw [show r = r.map id from (List.map_id r).symm,List.map_map]
   refine List.map_congr_left fun y hy=>?_
   have:y.1 ≠ k:=fun q=>hn.1 (List.mem_map.mpr ⟨y,hy,q⟩)
   simp [this]
  ·rw [if_neg e,← ih]
   simp only [List.any_cons,decide_eq_false e,Bool.false_or,List.map_cons,if_neg e]
   split <;> rfl
theorem fRa {prog:Program} {w:World} (x:PySem.Str) (hsh:Int) (t:Tok) (v:Value):∀ {es:List DictEntry} {kvs:List (PySem.Str × Value)},Pairs (strKind prog w) es kvs→Pairs (strKind prog w) (putL x hsh (.str x t) v es) (lX x v kvs)
 | _,_,.nil=>.cons (jF _ _ _ _) rfl .nil
 | _,_,@Pairs.cons _ _ _ _ _ e kv es kvs hk hv hp=>by
  obtain ⟨u,ht⟩:=Value.isStrOf_shape hk
  unfold putL
  rw [tZ]
  have e1:e.key.isStr x = decide (kv.1 = x):=by rw [ht]; rfl
  rw [e1]
  by_cases h:kv.1 = x
  ·rw [decide_eq_true h,if_pos rfl,if_pos h]
   exact .cons hk rfl hp
  ·rw [decide_eq_false h,if_neg Bool.false_ne_true,if_neg h]
   exact .cons hk hv (fRa x hsh t v hp)
theorem iBa (x:PySem.Str) (hsh:Int) (key v:Value):∀ es:List DictEntry,(putL x hsh key v es).length ≤ es.length + 1
 | []=>by simp [putL]
 | e :: r=>by
  unfold putL
  split
  ·simp
  ·have:=iBa x hsh key v r
   simp only [List.length_cons]
   exact lin [_,_] (.a .x (.n 1)) (.a (.a .y (.n 1)) (.n 1)) [(.x,.a .y (.n 1))] rfl this
end Mine
end
section
open PySem PySem.W PyProof.Rows PySem.Calls
namespace Mine
theorem VR.handed {ρ:Rho} {v:V} {rv:Value} (h:VR ρ v rv):handedIn rv = true:=by cases h <;> rfl
theorem cPa:∀ a < 38,∀ b < 38,cX a = cX b→a = b:=by decide +kernel
theorem wQ {n:Nat} (hn:n < 38):∀ {fs:List (Nat × V)},(∀ f ∈ fs,f.1 < 38)→look (cX n) (fs.map fun f=>(cX f.1,f.2)) = look n fs
 | [],_=>rfl
 | (k,v) :: r,h=>by
  have ih:=wQ hn (fs:=r) fun f hf=>h f (.tail _ hf)
  rw [List.map_cons]
  rw [mH,mH]
  by_cases e:k = n
  ·subst e; rw [if_pos rfl,if_pos rfl]
  ·rw [if_neg e,if_neg (fun q=>e (cPa _ (h _ (.head _)) _ hn q))]; exact ih
theorem bHa {n:Nat} (hn:n < 38) (v:V):∀ {fs:List (Nat × V)},(∀ f ∈ fs,f.1 < 38)→put (cX n) v (fs.map fun f=>(cX f.1,f.2)) = (put n v fs).map fun f=>(cX f.1,f.2)
 | [],_=>rfl
 | (k,u) :: r,h=>by
  have ih:=bHa hn v (fs:=r) fun f hf=>h f (.tail _ hf)
  rw [List.map_cons]
  rw [jQ,jQ]
  by_cases e:k = n
  ·subst e; rw [if_pos rfl,if_pos rfl]; rfl
  ·rw [if_neg e,if_neg (fun q=>e (cPa _ (h _ (.head _)) _ hn q)),ih]; rfl
theorem hMa {n:Nat} (hn:n < 38) (v:V):∀ {fs:List (Nat × V)},(∀ f ∈ fs,f.1 < 38)→∀ f ∈ put n v fs,f.1 < 38
 | [],_=>fun f hf=>by rw [List.mem_singleton.mp hf]; exact hn
 | (k,u) :: r,h=>by
  rw [jQ]
  split
  ·intro f hf
   rcases List.mem_cons.mp hf with rfl | hf
   ·exact h (k,u) (.head _)
   ·exact h f (.tail _ hf)
  ·intro f hf
   rcases List.mem_cons.mp hf with rfl | hf
   ·exact h _ (.head _)
   ·exact hMa hn v (fun f hf=>h f (.tail _ hf)) f hf
theorem pairs_len {prog:Program} {w:World} {es:List DictEntry} {kvs:List (PySem.Str × Value)} (h:Pairs (strKind prog w) es kvs):es.length = kvs.length:=by
 induction h with
 | nil=>rfl
 | cons _ _ _ ih=>simp [ih]
theorem cLa:∀ {ρ:Rho},(own ρ).Nodup→∀ {i:Nat} {r:Addr × List Addr},ρ[i]? = some r→(r.1 :: r.2).Nodup
 | [],_,_,_,h=>by cases h
 | x :: ρ,nd,i,r,h=>by
  have nd':((x.1 :: x.2) ++ own ρ).Nodup:=nd
  rw [List.nodup_append] at nd'
  obtain ⟨n1,n2,_⟩:=nd'
  clear nd; cases i with
  | zero=>cases h; exact n1
  | succ i=>exact cLa n2 (i:=i) h
noncomputable abbrev yM (h:Real) (ρ:Rho) (X:List (Addr × Obj)) (d:Addr):List (Addr × Obj):=pB h ((mine ρ X).filter fun a=>a != d)
structure KOk (D:Wd):Prop where
 attr:∀ c:Cls,∀ n < 38,kOk D.K (D.ca c) (cX n) = true
section
variable {D:Wd} {c:Act D} {A:Around} {m m':PySem.Str→Option Value} {h h':Real} {s:Shared} {ρ:Rho} {H H':Heap} {X:List (Addr × Obj)} {E:Value→Shared→Prop} {Q:Value→Shared→Prop}
theorem St.off_news (S:St c m h ρ H X) {d:Addr} {o:Obj} (hd:d ∈ mine ρ X) (e:h.get? d = some o):News c.h₀ c.L h ((d,o) :: yM h ρ X d):=by
 intro p hp
 rcases List.mem_cons.mp hp with rfl | hp
 ·exact S.news _ (iQ.mpr ⟨hd,e⟩)
 ·obtain ⟨a,x⟩:=p
  obtain ⟨ha,ex⟩:=iQ.mp hp
  exact S.news _ (iQ.mpr ⟨(List.mem_filter.mp ha).1,ex⟩)
theorem mSa {d:Addr}:∀ p ∈ yM h ρ X d,p.1 ≠ d:=by
 rintro ⟨a,x⟩ hp
 obtain ⟨ha,_⟩:=iQ.mp hp
 simpa using (List.mem_filter.mp ha).2
theorem St.turnN (S:St c m h ρ H X) {i:Nat} {r:Addr × List Addr} {o o':O} {d:Addr} {od':Obj} (hi:H[i]? = some o) (hnt:∀ vs,o ≠ .tuple vs) (hr:ρ[i]? = some r) (hd:d ∈ r.1 :: r.2)
  (F':Fr c.h₀ c.L h' m) (N':News c.h₀ c.L h' ((d,od') :: yM h ρ X d))
  (hO:h'.get? d = some od'→(∀ b ∈ mine ρ X,b ≠ d→∀ x,h.get? b = some x→h'.get? b = some x)→OR D.prog D.w D.ca h' ρ (cV (H.set i o')) r.1 r.2 o'):St c m h' ρ (H.set i o') X:=by
 have key:∀ b ∈ mine ρ X,b ≠ d→∀ x,h.get? b = some x→h'.get? b = some x:=fun b hb ne x e =>
  (N' _ (.tail _ (iQ.mpr ⟨List.mem_filter.mpr ⟨hb,by simpa using ne⟩,e⟩))).1
 have hdd:=(N' _ (.head _)).1
 refine ⟨F',S.sim.turn hi hnt hr (fun b hb nb x e=>key b hb (fun q=>nb (q ▸ hd)) x e) (fun b hb=>?_) (hO hdd key)⟩
 clear hO N' F' hd hnt hi; by_cases q:b = d
 ·exact ⟨_,q ▸ hdd⟩
 ·obtain ⟨x,e⟩:=(S.sim.fresh b (eV hr hb)).1
  exact ⟨x,key b (List.mem_append_left _ (eV hr hb)) q x e⟩
theorem St.ins (S:St c m h ρ H X) {v:V} {rv:Value} {p:Cls × List (Nat × V)} (hv:VR ρ v rv) (e:mW H v = some p):∃ a b d,v = .ref a∧rv = .ref b∧H[a]? = some (.inst p.1 p.2)∧ρ[a]? = some (b,[d])∧OR D.prog D.w D.ca h ρ (cV H) b [d] (.inst p.1 p.2):=by
 refine cps fun G_ g_=>?_
 obtain ⟨a,rfl,e'⟩:=sUa e
 clear e; obtain ⟨b,as,rfl,q,o⟩:=S.look hv e'
 refine g_ ?_
 clear g_
 clear hv S; cases id o with
 | inst g1 g2 ps nd p lt=>exact ⟨a,b,_,rfl,rfl,e',q,o⟩
theorem hDa {K:Frag} {C:Addr} {n:PySem.Str} (h:kOk K C n = true):plainGet K C n = true∧hasDictIn K C = true∧(findIn K (.ref C) n).any (noGet K) = true∧findIn K (.ref C) "__setattr__" = some (some (.builtin "object.__setattr__"))∧plainOver K C = true∧takerIn K C n = some none:=by
 unfold kOk at h
 simp only [Bool.and_eq_true,beq_iff_eq] at h
 refine cps fun G_ g_=>?_
 obtain ⟨⟨⟨⟨⟨k1,k2⟩,k3⟩,k4⟩,k5⟩,k6⟩:=h
 refine g_ ?_
 clear g_
 exact ⟨k1,k2,k3,k4,k5,k6⟩
theorem gVa {expr:Bool} (S:St c m s.heap ρ H X) (hK:KOk D) {o v:V} {ro:Value} (ho:VR ρ o ro) {n:Nat} (hn:n < 38) (e:eO o n H = some v) (k:∀ rv tk,VR ρ v rv→Q rv { s with toks:=tk }) :
  wpAny (model D.prog D.w) A (getAttr ro (cX n) expr) Q E s:=by
 refine cps fun G_ g_=>?_
 obtain ⟨⟨cc,fs⟩,e1,e2⟩:=bind_eq e
 clear e; obtain ⟨a,b,d,rfl,rfl,_,q1,o1⟩:=S.ins ho e1
 refine g_ ?_
 clear g_
 clear q1 ho e1; cases o1 with
 | @inst dd _ _ kvs es nn g1 g2 ps nd p lt =>
 refine cps fun G_ g_=>?_
 obtain ⟨k1,k2,k3,k4,k5,k6⟩:=hDa (hK.attr cc n hn)
 obtain ⟨at_,ha,hg⟩:=any_some k3
 refine g_ ?_
 clear g_
 clear k6 k5 k4 k3 nd hK; rcases p.find (cX n) with ⟨h1,_⟩ | ⟨v',rv,h1,h2,hv⟩
 ·rw [wQ hn lt] at h1
  rw [show look n fs = some v from e2] at h1
  clear p; cases h1
 ·rw [wQ hn lt,show look n fs = some v from e2] at h1
  clear lt p e2 hn; cases h1
  exact get_own S.fr c.KX ⟨g1,rfl,rfl,g2⟩ k1 k2 ha hg ((uO _ ps).trans (by rw [h2])) hv.handed (k rv _ hv)
theorem cMa {expr:Bool} (S:St c m s.heap ρ H X) (hK:KOk D) {o v:V} {ro:Value} (ho:VR ρ o ro) {n:Nat} (hn:n < 38) (e:eO o n H = some v) (k:cG c m s ρ X v H Q) :
  wpAny (model D.prog D.w) A (getAttr ro (cX n) expr) Q E s:=gVa S hK ho hn e fun rv tk hv=>k s.heap tk ρ rv S (aQ.refl _) hv
theorem fFa {Q:Unit→Shared→Prop} (S:St c m s.heap ρ H X) (hK:KOk D) {o v:V} {ro rv:Value} (ho:VR ρ o ro) (hv:VR ρ v rv) {n:Nat} (hn:n < 38) (e:kI o n v H = some H')
  (k:∀ h' tk,St c m h' ρ H' X→Q () { s with heap:=h',toks:=tk }):wpAny (model D.prog D.w) A (setAttr ro (cX n) rv) Q E s:=by
 refine cps fun G_ g_=>?_
 obtain ⟨a,ea,e1⟩:=bind_eq e
 obtain ⟨⟨cc,fs⟩,e2,e3⟩:=bind_eq e1
 obtain ⟨hl,e4⟩:=bD e3
 refine g_ ?_
 clear g_
 clear e3 e1 e; cases e4
 cases iD ea
 refine cps fun G_ g_=>?_
 clear ea; obtain ⟨a',b,dd,ha,rfl,ei,q1,o1⟩:=S.ins (p:=(cc,fs)) ho e2
 refine g_ ?_
 clear g_
 clear ho e2; cases ha
 cases o1 with
 | @inst dd _ _ kvs es nn g1 g2 ps nd p lt =>
 refine cps fun G_ g_=>?_
 obtain ⟨k1,k2,k3,k4,k5,k6⟩:=hDa (hK.attr cc n hn)
 refine g_ ?_
 clear g_
 have hm:dd ∈ mine ρ X:=List.mem_append_left _ (eV q1 (.tail _ (.head _)))
 have hlen:es.length = fs.length:=by rw [pairs_len ps,p.length,List.length_map]
 have hl:fs.length ≤ 100:=of_decide_eq_true hl
 refine set_dict S.fr c.KX (S.off_news hm g2) ⟨g1,rfl,rfl,g2⟩ rfl k4 k5 k6 k2 (by rw [uO _ ps]; rfl) rfl (.head mSa) (Nat.le_trans (iBa _ _ _ _ _) (by exact lin [_,_] (.a .x (.n 1)) (.n 1000) [(.x,.y),(.y,.n 100)] rfl (Nat.le_of_eq hlen) hl)) fun h' F' N'=>k h' _ (S.turnN ei (fun vs h=>nomatch h) q1 (.tail _ (.head _)) F' N' fun hd key=>?_)
 have hne:b ≠ dd:=by
  intro q
  have hnd:([b,dd]:List Addr).Nodup:=cLa S.sim.nd q1
  rw [q] at hnd
  simp at hnd
 have p':=p.put hv (cX n)
 rw [bHa hn v lt] at p'
 exact .inst (key b (List.mem_append_left _ (eV q1 (.head _))) hne _ g1) hd (fRa _ _ _ _ ps) (iSa nd) p' (hMa hn v lt)
end
end Mine
end
section
open PySem PySem.W PyProof.Rows PySem.Calls
namespace Mine
set_option tactic.hygienic true in
theorem tK {slice:Expr} {o i:Value}:∃ ops,subscripted slice false o i = operate ops (getItem o i):=by
 cases slice with
 | Slice _ _ c _=>cases c <;> exact ⟨_,rfl⟩
 | _=>exact ⟨_,rfl⟩
set_option tactic.hygienic true in
theorem vD {i:Int} {n j:Nat} (h:place i n = some j):(0 ≤ i∧i < n∧j = i.toNat) ∨ (i = -1∧0 < n∧j = n - 1):=by
 unfold place at h
 split at h
 ·rename_i q; cases h; exact .inl ⟨q.1,q.2,rfl⟩
 ·split at h
  ·rename_i q; cases h; exact .inr ⟨q.1,q.2,rfl⟩
  ·first | exact nos h | exact nof h | cases h
theorem uNa {i:Int} {n j:Nat} (h:place i n = some j):seqIndex? i n = some j:=by
 unfold seqIndex?
 rcases vD h with ⟨h1,h2,rfl⟩ | ⟨rfl,h2,rfl⟩
 ·have:¬ i < 0:=by exact Int.not_lt.mpr h1
  simp only [this,if_false]
  rw [if_pos (by simp only [Bool.and_eq_true,decide_eq_true_eq]; exact ⟨h1,h2⟩)]
 ·simp only [show ((-1:Int) < 0) from by decide,if_true]
  rw [if_pos (by simp only [Bool.and_eq_true,decide_eq_true_eq]; exact zJ_ h2)]
  congr 1; exact tnp h2
section
variable {D:Wd} {c:Act D} {A:Around} {m m':PySem.Str→Option Value} {h h':Real} {s:Shared} {ρ:Rho} {H H':Heap} {X:List (Addr × Obj)} {E:Value→Shared→Prop} {Q:Value→Shared→Prop}
theorem bVa {K:Type} [DecidableEq K] {knd:KeyKind D.prog D.w K} {value slice:Expr} {b:Addr} {k:K} {rk:Value} (hk:knd.is k rk = true) {es:List (K × V)} {kvs:List (K × Value)} (d:s.heap.DictOf knd b kvs) (p:PR ρ es kvs) {v:V} (e:look k es = some v)
  (same:∀ (rv:Value) (tk:Nat),VR ρ v rv→Q rv { s with toks:=tk }):wpAny (model D.prog D.w) A (subscriptTail value slice (.ref b) rk) Q E s:=by
 obtain ⟨ops,hs⟩:=tK (slice:=slice) (o:=.ref b) (i:=rk)
 rcases p.find k with ⟨h1,_⟩ | ⟨v',rv,h1,h2,hv⟩
 ·rw [e] at h1; first | exact nos h1 | exact nof h1 | cases h1
 ·rw [e] at h1
  clear e p; cases h1
  exact tail_any d.mapOf.typeIs slot_dict_getitem.lookup (wpAny_getItem_of hk d.mapOf h2 (same _ _ hv)) hs
set_option tactic.hygienic true in
theorem eBa {value slice:Expr} (S:St c m s.heap ρ H X) {o i v:V} {ro ri:Value} (ho:VR ρ o ro) (hi:VR ρ i ri) (e:subV o i H = some v) (same:∀ (rv:Value) (tk:Nat),VR ρ v rv→Q rv { s with toks:=tk }) :
  wpAny (model D.prog D.w) A (subscriptTail value slice ro ri) Q E s:=by
 obtain ⟨ops,hs⟩:=tK (slice:=slice) (o:=ro) (i:=ri)
 cases i with
 | int kk =>
  cases hi
  rename_i t
  cases o with
  | ref a =>
   have e:qL kk H[a]? = some v:=e
   cases eo:H[a]? with
   | none=>rw [eo] at e; first | exact nos e | exact nof e | cases e
   | some oo =>
    rw [eo] at e
    refine cps fun G_ g_=>?_
    obtain ⟨b,as,rfl,q1,o1⟩:=S.look ho eo
    refine g_ ?_
    clear g_
    clear eo; cases o1 with
    | @list vs rvs n g vr l =>
     have hl:s.heap.IsList b rvs.toArray:=⟨_,g,rfl,_,rfl⟩
     obtain ⟨j,hj,ej⟩:=bind_eq e
     obtain ⟨rv,er,hv⟩:=vr.get ej
     have hlen:=vr.length
     refine tail_any hl.typeIs slot_list_getitem.lookup ?_ hs
     rcases vD hj with ⟨h1,h2,rfl⟩ | ⟨rfl,h2,rfl⟩
     ·exact wpAny_getItem_list hl h1 (by exact zG_ h2 l) (toA er) (same _ _ hv)
     ·refine wpAny_getItem_list_neg hl (by decide) (by simp only [List.size_toArray]; exact (by rw [hlen]; exact zH_ h2)) (by decide) ?_ (same _ _ hv)
      have:(-1 + ((rvs.toArray.size:Nat):Int)).toNat = vs.length - 1:=by simp only [List.size_toArray]; exact (by rw [hlen]; exact tnp h2)
      rw [this]
      simpa using er
    | @tuple vs rvs n g vr l =>
     have hl:IsTup s.heap b rvs.toArray:=⟨_,g,rfl,_,rfl⟩
     obtain ⟨j,hj,ej⟩:=bind_eq e
     obtain ⟨rv,er,hv⟩:=vr.get ej
     have hlen:=vr.length
     have hp:=vD hj
     refine tail_any hl.typeIs slot_tuple_getitem.lookup (getItem_tuple hl (zK_ hp l).1 (zK_ hp l).2 ?_ (toA er) (same _ _ hv)) hs
     rw [List.size_toArray,hlen]
     exact uNa hj
    | idict d p l=>exact bVa (rC _ _ _ _) d p e same
    | dict _ _ _=>first | exact nos e | exact nof e | cases e
    | tdict _ _ _=>first | exact nos e | exact nof e | cases e
    | inst _ _ _ _ _ _=>first | exact nos e | exact nof e | cases e
  | str ss =>
   cases ho
   rename_i t
   refine cps fun G_ g_=>?_
   obtain ⟨hb,e1⟩:=bD e
   have hb:=of_decide_eq_true hb
   obtain ⟨ch,hc,rfl⟩:=map_eq e1
   refine g_ ?_
   clear g_
   refine tail_any (typeIs_str s ss t) slot_str_getitem.lookup (getItem_str ?_ ?_ (same _ _ (.str _ _))) hs
   ·simp only [Bool.or_eq_false_iff,decide_eq_false_iff_not]
    exact zL_ hb.1 hb.2.2
   ·unfold seqIndex?
    have:¬ kk < 0:=by exact Int.not_lt.mpr hb.1
    simp only [this,if_false]
    rw [if_pos (by simp only [Bool.and_eq_true,decide_eq_true_eq]; exact ⟨hb.1,hb.2.1⟩)]
    exact hc
  | _=>first | exact nos e | exact nof e | cases e
 | str ss =>
  clear hs; cases hi
  obtain ⟨es,e1,e2⟩:=bind_eq e
  obtain ⟨a,rfl,e3⟩:=aVa e1
  clear e1; obtain ⟨b,as,rfl,q1,o1⟩:=S.look ho e3
  clear ho q1 e3 S; cases o1 with
  | dict d p l=>exact bVa (jF _ _ _ _) d p e2 same
 | _=>first | exact nos e | exact nof e | cases e
theorem oOa {value slice:Expr} (S:St c m s.heap ρ H X) {o i v:V} {ro ri:Value} (ho:VR ρ o ro) (hi:VR ρ i ri) (e:subV o i H = some v) (k:cG c m s ρ X v H Q) :
  wpAny (model D.prog D.w) A (subscriptTail value slice ro ri) Q E s:=eBa S ho hi e fun rv tk hv=>k s.heap tk ρ rv S (aQ.refl _) hv
end
end Mine
end
section
open PySem PySem.W PyProof.Rows PySem.Calls
namespace Mine
theorem wDa (items:List Value) {k:Int} (h:0 ≤ k):slicePick items.toArray (some k) none none = (items.drop k.toNat).toArray:=by
 rw [kms_pick_eq]
 unfold kms_pick kms_lo kms_hi
 simp only [if_neg (show ¬ k < 0 by exact Int.not_lt.mpr h)]
 rw [kmk_drop_min,List.take_of_length_le (by rw [List.length_drop]; exact Nat.sub_le_sub_left (Nat.min_le_left _ _) _)]
theorem StrsAre.idx {ys:List PySem.Str} {vs:List Value} (h:StrsAre vs ys) (s:PySem.Str):∀ {j:Nat},idxOf s (ys.map V.str) = some j →
  ∃ hj:j < vs.length,isStrOf s vs[j] = true∧∀ m (hm:m < vs.length),m < j→isStrOf s vs[m] = false:=by
 induction h with
 | nil=>intro j e; first | exact nos e | exact nof e | cases e
 | @cons y t vs ys h ih =>
  intro j e
  rw [List.map_cons] at e
  rw [qLa] at e
  have hq:isS s (V.str y) = decide (y = s):=rfl
  rw [hq] at e
  clear hq; by_cases q:y = s
  ·rw [if_pos (decide_eq_true q)] at e
   cases e
   cases q
   exact ⟨Nat.zero_lt_succ _,by simp [isStrOf],fun m hm h=>absurd h (Nat.not_lt_zero _)⟩
  ·rw [if_neg (by simpa using q)] at e
   obtain ⟨i,ei,rfl⟩:=map_eq e
   obtain ⟨hj,e1,e2⟩:=ih ei
   refine ⟨Nat.succ_lt_succ hj,e1,fun m hm h=>?_⟩
   clear e1 hj e ei ih; cases m with
   | zero=>simp [isStrOf,q]
   | succ m=>exact e2 m (Nat.lt_of_succ_lt_succ hm) (Nat.lt_of_succ_lt_succ h)
theorem wEa {x y:PySem.Str} (h:y.length = 1):Txt.startswith x y = decide (x.cps[0]? = y.cps[0]?):=by
 obtain ⟨⟨xs⟩⟩:=x
 obtain ⟨⟨ys⟩⟩:=y
 have hy:ys.length = 1:=h
 clear h; obtain ⟨b,rfl⟩:=List.length_eq_one_iff.mp hy
 unfold Txt.startswith
 rw [StrLaws.subAt_eq]
 clear hy; cases xs with
 | nil=>simp [PySem.Str.length]
 | cons a r=>simp [PySem.Str.length]; rw [Bool.eq_iff_iff]; simp
theorem vUa:∀ c,c < 128→Txt.isalpha ⟨#[c]⟩ = eXa c:=by decide +kernel
theorem jC {K:Type} [DecidableEq K] (x:K) (v:V):∀ es:List (K × V),(put x v es).length ≤ es.length + 1
 | []=>Nat.le_refl _
 | (k,u) :: r=>by
  have:=jC x v r
  rw [jQ]
  split
  ·simp
  ·simp only [List.length_cons]; exact lin [_,_] (.a .x (.n 1)) (.a (.a .y (.n 1)) (.n 1)) [(.x,.a .y (.n 1))] rfl this
theorem uBa {prog:Program} {w:World} {K K':Type} [DecidableEq K] [DecidableEq K'] {knd:KeyKind prog w K} {knd':HeapKind prog w K'} {h:Real} {a:Addr} (d:h.DictOf knd a []):h.DictOfH knd' a []:=by
 refine cps fun G_ g_=>?_
 obtain ⟨ob,es,ep,ho,hc,hd,_,hp,hn⟩:=d
 refine g_ ?_
 clear g_
 clear hn; cases hes:es.toList with
 | nil=>exact ⟨ob,es,ep,ho,hc,hd,by rw [hes]; rfl,fun x hx=>(nomatch hx),List.nodup_nil⟩
 | cons x r=>rw [hes] at hp; first | exact nos hp | exact nof hp | cases hp
theorem DictOf.nodup {prog:Program} {w:World} {K:Type} [DecidableEq K] {knd:KeyKind prog w K} {h:Real} {a:Addr} {kvs:List (K × Value)} (d:h.DictOf knd a kvs):(kvs.map (·.1)).Nodup:=by
 obtain ⟨_,_,_,_,_,_,_,_,hn⟩:=d; exact hn
theorem DictOf.here {prog:Program} {w:World} {K:Type} [DecidableEq K] {knd:KeyKind prog w K} {h:Real} {a:Addr} {kvs:List (K × Value)} (d:h.DictOf knd a kvs):∃ x,h.get? a = some x:=by
 obtain ⟨x,_,_,e,_⟩:=d; exact ⟨x,e⟩
theorem DictOfH.here {prog:Program} {w:World} {K:Type} [DecidableEq K] {knd:HeapKind prog w K} {h:Real} {a:Addr} {xs:List (K × Addr × Value)} (d:h.DictOfH knd a xs):∃ x,h.get? a = some x:=by
 obtain ⟨x,_,_,e,_⟩:=d; exact ⟨x,e⟩
theorem mHa {prog:Program} {w:World} {h:Real} {ρ:Rho} {tup:Nat→Prop} {ca:Cls→Addr} {b:Addr} {as:List Addr} {x y:PySem.Str} (o:OR prog w ca h ρ tup b as (.tuple [.str x,.str y])) :
  (tupleKind (strKind prog w)).is h [x,y] b∧as = []:=by
 cases o with
 | tuple g v l =>
  clear l; cases v with
  | cons h1 t1 =>
   cases t1 with
   | cons h2 t2 =>
    cases t2
    cases h1; first | exact nos h2 | exact nof h2 | cases h2
    exact ⟨⟨_,_,_,g,rfl,rfl,.cons (jF _ _ _ _) (.cons (jF _ _ _ _) .nil)⟩,rfl⟩
theorem dAa {K:Type} [DecidableEq K] {k:K}:∀ {xs:List (K × Addr × Value)},(atKey xs k).isSome = decide (k ∈ xs.map (·.1))
 | []=>rfl
 | x :: r=>by
  have ih:=dAa (k:=k) (xs:=r)
  unfold atKey at ih ⊢
  rw [List.find?_cons]
  by_cases e:x.1 = k
  ·rw [decide_eq_true e]; simp [e]
  ·rw [decide_eq_false e]; simp only [ih,List.map_cons,List.mem_cons]; rw [Bool.eq_iff_iff]; simp [Ne.symm e]
theorem pEa {x:PySem.Str} (h:x.length = 1):x = ⟨#[x.cps[0]?.getD 200]⟩:=by
 obtain ⟨⟨xs⟩⟩:=x
 have hx:xs.length = 1:=h
 clear h; obtain ⟨b,rfl⟩:=List.length_eq_one_iff.mp hx
 rfl
section
variable {D:Wd} {c:Act D} {A:Around} {m m':PySem.Str→Option Value} {h h':Real} {s:Shared} {ρ:Rho} {H H':Heap} {X:List (Addr × Obj)} {E:Value→Shared→Prop} {Q:Value→Shared→Prop}
theorem mOa {value:Expr} {p:Pos} {lo:Expr} (S:St c m s.heap ρ H X) {o i v:V} {ro ri:Value} (ho:VR ρ o ro) (hi:VR ρ i ri) (e:uC o i H = some (v,H')) (k:cG c m s ρ X v H' Q) :
  wpAny (model D.prog D.w) A (subscriptTail value (.Slice (some lo) none none p) ro (.ref s.heap.objs.size)) Q E { s with heap:=s.heap.push { cls:=.type "slice",data:=.fields #[ri,.none,.none] } }:=by
 refine cps fun G_ g_=>?_
 obtain ⟨vs,e1,e2⟩:=bind_eq e
 obtain ⟨kk,e3,e4⟩:=bind_eq e2
 obtain ⟨hk,e5⟩:=bD e4
 have hk:=of_decide_eq_true hk
 clear e4 e2; obtain ⟨hl,rfl,rfl⟩:=oU e5
 refine g_ ?_
 clear g_
 clear e5 hl; cases iZ e3
 clear e3; cases hi
 rename_i t
 refine cps fun G_ g_=>?_
 obtain ⟨b,rvs,n,rfl,g,vr,l⟩:=S.lst ho e1
 have hlen:=vr.length
 have hL:s.heap.IsList b rvs.toArray:=⟨_,g,rfl,_,rfl⟩
 obtain ⟨ops,hs⟩:=tK (slice:=.Slice (some lo) none none p) (o:=.ref b) (i:=.ref s.heap.objs.size)
 refine g_ ?_
 clear g_
 refine tail_any (hL.push _).typeIs slot_list_getitem.lookup (wpAny_getItem_list_slice (hL.push _) (Heap.IsSliceOf.new ..) (.int kk t) .none .none (by simp) ?_ (by rw [List.size_toArray]; exact iR (by exact lin [_,_] .x (.n 2000) [(.x,.y),(.y,.n 2000)] rfl (Nat.le_of_eq hlen) l))) hs
 rw [wDa _ hk.1]
 exact aNa (s:={ s with heap:=s.heap.push { cls:=.type "slice",data:=.fields #[.int kk t,.none,.none] } }) (S.keeps fun b o e=>Heap.get?_push_of_some _ e) (vr.drop kk.toNat) (by rw [List.length_drop]; exact lin [_,_] .x (.n 2000) [(.x,.y),(.y,.n 2000)] rfl (Nat.sub_le _ _) l) k
theorem yV {K:Type} [DecidableEq K] {knd:KeyKind D.prog D.w K} {b:Addr} {k:K} {rk rv:Value} (hk:knd.is k rk = true) {es:List (K × V)} {kvs:List (K × Value)} (d:s.heap.DictOf knd b kvs) (p:PR ρ es kvs) (hl:es.length ≤ 1000) {v:V} (hv:VR ρ v rv) {Q:Unit→Shared→Prop}
  (fin:∀ h' tk kvs',Heap.SameBut b s.heap h'→h'.DictOf knd b kvs'→PR ρ (put k v es) kvs'→(put k v es).length ≤ 2000→Q () { s with heap:=h',toks:=tk }):wpAny (model D.prog D.w) A (setItem (.ref b) rk rv) Q E s:=by
 refine wpAny_setItem_pairs hk d (fun h' d' hs=>?_) (iR (by rw [p.length]; exact lin [_] .x (.n 2000) [(.x,.n 1000)] rfl hl))
 rw [vW _ _ (DictOf.nodup d)] at d'
 exact fin h' _ _ hs d' (p.put hv k) (Nat.le_trans (jC _ _ _) (by exact lin [_] (.a .x (.n 1)) (.n 2000) [(.x,.n 1000)] rfl hl))
theorem rVa {us:List V} {p:PySem.Str × PySem.Str} (e:oK us = some p):us = [.str p.1,.str p.2]:=by
 cases us with
 | nil=>exact nos e
 | cons a r=>cases r with
  | nil=>exact nos e
  | cons b r=>cases r with
   | nil =>
    obtain ⟨x,ex,e1⟩:=bind_eq (show (asStr a).bind _ = some p from e)
    obtain ⟨y,ey,rfl⟩:=map_eq e1
    rw [nH ex,nH ey]
   | cons _ _=>exact nos e
theorem St.tupk (S:St c m s.heap ρ H X) {i:V} {ri:Value} (hi:VR ρ i ri) {p:PySem.Str × PySem.Str} {us:List V} (e1:oG H i = some us) (e2:oK us = some p):∃ t b2,ri = .ref b2∧cV H t∧ρ[t]? = some (b2,[])∧(tupleKind (strKind D.prog D.w)).is s.heap [p.1,p.2] b2:=by
 refine cps fun G_ g_=>?_
 obtain ⟨t,rfl,e3⟩:=cYa e1
 clear e1; obtain ⟨b2,as2,rfl,q2,o2⟩:=S.look hi e3
 refine g_ ?_
 clear g_
 rw [rVa e2] at o2
 clear hi e2 S; obtain ⟨hk,rfl⟩:=mHa o2
 exact ⟨t,b2,rfl,⟨_,e3⟩,q2,hk⟩
theorem iJa {a:Nat} {oo o':O} (eo:H[a]? = some oo) (hn:∀ vs,oo ≠ .tuple vs):∀ j,cV H j→cV (H.set a o') j:=fun j ⟨vs,ej⟩=>⟨vs,by rw [List.getElem?_set_ne (fun q=>by rw [← q,eo] at ej; exact hn _ (Option.some.inj ej))]; exact ej⟩
section
variable {a:Nat} {b:Addr} {i v:V} {ri rv:Value} {o':O} {Q:Unit→Shared→Prop}
noncomputable abbrev sG (c:Act D) (m:PySem.Str→Option Value) (s:Shared) (ρ:Rho) (X:List (Addr × Obj)) (H1:Heap) (Q:Unit→Shared→Prop):Prop:=∀ h' tk,St c m h' ρ H1 X→Q () { s with heap:=h',toks:=tk }
theorem set_list (S:St c m s.heap ρ H X) (q1:ρ[a]? = some (b,[])) (hi:VR ρ i ri) (hv:VR ρ v rv) {vs:List V} {rvs:List Value} {n:Nat} (eo:H[a]? = some (.list vs)) (g:s.heap.get? b = some (cL rvs n)) (vr:VRs ρ vs rvs) (l:vs.length ≤ 2000) (e:iY i v H (some (.list vs)) = some o') (k:sG c m s ρ X (H.set a o') Q) :
  wpAny (model D.prog D.w) A (setItem (.ref b) ri rv) Q E s:=by
 obtain ⟨kk,ek,e1⟩:=bind_eq e
 obtain ⟨j,hj,e2⟩:=map_eq e1
 obtain ⟨t,rfl⟩:=hi.int_ ek
 have hlen:=vr.length
 subst e2
 have fin:∀ h',h' = s.heap.update b (Obj.mapSeq (·.setIfInBounds j rv))→Q () { s with heap:=h' }:=by
  rintro _ rfl
  have g':=PySem.IsL.update (h:=s.heap) (l:=b) (items:=rvs.toArray) (n:=n) g (·.setIfInBounds j rv)
  exact k _ s.toks (S.turn eo (fun _ h=>nomatch h) q1 (.head _) (Heap.SameBut.update ..) ⟨_,g'⟩ (.list (rvs:=rvs.set j rv) (n:=_) (by simpa using g') (vr.set hv j) (by rw [List.length_set]; exact l)))
 clear k e e1 ek hi eo q1 S
 clear vr hv; rcases vD hj with ⟨h1,h2,rfl⟩ | ⟨rfl,h2,rfl⟩
 ·exact ki_setAt g h1 (by exact zG_ h2 l) (by simp only [List.size_toArray]; exact (by rw [hlen]; exact h2)) (fin _ rfl)
 ·refine ki_setBack g (by decide) (by simp only [List.size_toArray]; exact (by rw [hlen]; exact zH_ h2)) (by decide) (fin _ ?_)
  have:(-1 + ((rvs.toArray.size:Nat):Int)).toNat = vs.length - 1:=by simp only [List.size_toArray]; exact (by rw [hlen]; exact tnp h2)
  rw [this]
theorem qZa (S:St c m s.heap ρ H X) (q1:ρ[a]? = some (b,[])) (hi:VR ρ i ri) (hv:VR ρ v rv) {es:List (Int × V)} {kvs:List (Int × Value)} (eo:H[a]? = some (.idict es)) (d:s.heap.DictOf (intKind D.prog D.w) b kvs) (p:PR ρ es kvs) (e:iY i v H (some (.idict es)) = some o') (k:sG c m s ρ X (H.set a o') Q) :
  wpAny (model D.prog D.w) A (setItem (.ref b) ri rv) Q E s:=by
 obtain ⟨kk,ek,e1⟩:=bind_eq e
 obtain ⟨hl,e2⟩:=bD e1
 clear e1 e; obtain ⟨t,rfl⟩:=hi.int_ ek
 have e2:=Option.some.inj e2
 clear hi ek; subst e2
 exact yV (rC _ _ _ _) d p (of_decide_eq_true hl) hv fun h' tk kvs' hs d' p' l'=>k h' tk (S.turn eo (fun _ h=>nomatch h) q1 (.head _) hs (DictOf.here d') (.idict d' p' l'))
theorem xIa (S:St c m s.heap ρ H X) (hu:A.units + 2 < cLine) (q1:ρ[a]? = some (b,[])) (hi:VR ρ i ri) (hv:VR ρ v rv) {es:List (PySem.Str × V)} {kvs:List (PySem.Str × Value)} (eo:H[a]? = some (.dict es)) (d:s.heap.DictOf (strKind D.prog D.w) b kvs) (p:PR ρ es kvs) (e:iY i v H (some (.dict es)) = some o') (k:sG c m s ρ X (H.set a o') Q) :
  wpAny (model D.prog D.w) A (setItem (.ref b) ri rv) Q E s:=by
 have turn:∀ {h':Real},Heap.SameBut b s.heap h'→(∃ x,h'.get? b = some x)→OR D.prog D.w D.ca h' ρ (cV (H.set a o')) b [] o'→St c m h' ρ (H.set a o') X:=fun hs hx hO=>S.turn eo (fun _ h=>nomatch h) q1 (.head _) hs hx hO
 have nil:es.isEmpty = true→kvs = []:=fun h=>by
  rw [List.isEmpty_iff.mp h] at p
  clear q1; cases p
  rfl
 have up:=iJa (o':=o') eo fun _ h=>nomatch h
 clear eo q1; cases i with
 | str ss =>
  obtain ⟨hl,e2⟩:=bD e
  obtain ⟨t,rfl⟩:=hi.str_ rfl
  have e2:=Option.some.inj e2
  subst e2
  exact yV (jF _ _ _ _) d p (of_decide_eq_true hl) hv fun h' tk kvs' hs d' p' l'=>k h' tk (turn hs (DictOf.here d') (.dict d' p' l'))
 | int kk =>
  obtain ⟨hl,e2⟩:=bD e
  clear p; obtain ⟨t,rfl⟩:=hi.int_ rfl
  have e2:=Option.some.inj e2
  subst e2
  exact yV (knd:=intKind D.prog D.w) (es:=[]) (rC _ _ _ _) (iNa (nil hl ▸ d)) .nil (by decide) hv fun h' tk kvs' hs d' p' l'=>k h' tk (turn hs (DictOf.here d') (.idict d' p' l'))
 | ref t =>
  obtain ⟨hl,e2⟩:=bD e
  obtain ⟨us,e3,e4⟩:=bind_eq e2
  obtain ⟨pp,e5,e6⟩:=map_eq e4
  clear e4 p hv; obtain ⟨t',b2,rfl,tt,q2,hk⟩:=S.tupk hi e3 e5
  clear hi e5 e3 S; subst e6
  refine wpAny_setItem_heap (knd:=tupleKind (strKind D.prog D.w)) (tupleKind_room_in1 (Nat.lt_of_succ_lt hu)) hk (uBa (nil hl ▸ d)) (fun h' d' hs=>k h' _ (turn hs (DictOfH.here d') ?_)) (by decide)
  refine .tdict d' rfl fun z hz=>?_
  rw [List.mem_singleton.mp hz]
  exact ⟨t',up _ tt,q2⟩
 | none=>obtain ⟨hl,e2⟩:=bD e; first | exact nos e2 | exact nof e2 | cases e2
 | bool _=>obtain ⟨hl,e2⟩:=bD e; first | exact nos e2 | exact nof e2 | cases e2
theorem vSa (S:St c m s.heap ρ H X) (hu:A.units + 2 < cLine) (q1:ρ[a]? = some (b,[])) (hi:VR ρ i ri) {ks:List (List PySem.Str)} {xs:List (List PySem.Str × Addr × Value)} (eo:H[a]? = some (.tdict ks)) (d:s.heap.DictOfH (tupleKind (strKind D.prog D.w)) b xs) (ek:xs.map (·.1) = ks) (ht:∀ x ∈ xs,∃ j:Nat,cV H j∧ρ[j]? = some (x.2.1,[])) (e:iY i v H (some (.tdict ks)) = some o') (k:sG c m s ρ X (H.set a o') Q) :
  wpAny (model D.prog D.w) A (setItem (.ref b) ri rv) Q E s:=by
 obtain ⟨hl,e2⟩:=bD e
 have hl:=of_decide_eq_true hl
 obtain ⟨us,e3,e4⟩:=bind_eq e2
 obtain ⟨pp,e5,e6⟩:=map_eq e4
 obtain ⟨t,b2,rfl,tt,q2,hk⟩:=S.tupk hi e3 e5
 have hxl:xs.length ≤ 2000:=by rw [← List.length_map (f:=(·.1)),ek]; exact Nat.le_trans hl (by decide)
 have hup:=iJa (o':=o') eo fun _ h=>nomatch h
 refine wpAny_setItem_heap (knd:=tupleKind (strKind D.prog D.w)) (tupleKind_room_in1 (Nat.lt_of_succ_lt hu)) hk d (fun h' d' hs=>k h' _ (S.turn eo (fun _ h=>nomatch h) q1 (.head _) hs (DictOfH.here d') ?_)) (iR hxl)
 clear k e e2 e3 e4 e5 hl S
 unfold storedH at d'
 rw [dAa,ek] at d'
 clear hs hxl hk hi hl d eo q1 hu; by_cases hm:[pp.1,pp.2] ∈ ks
 ·rw [if_pos (by simpa using hm)] at d'
  rw [if_pos hm] at e6
  rw [← e6] at hup ⊢
  refine .tdict d' (by rw [keys_map_putAt,ek]) fun z hz=>?_
  obtain ⟨z0,hz0,rfl⟩:=List.mem_map.mp hz
  obtain ⟨j,hj,er⟩:=ht z0 hz0
  refine ⟨j,hup j hj,?_⟩
  rw [er]
  unfold putAt
  clear hz0; split <;> rfl
 ·rw [if_neg (by simpa using hm)] at d'
  rw [if_neg hm] at e6
  rw [← e6] at hup ⊢
  refine .tdict d' (by rw [List.map_append,ek]; rfl) fun z hz=>?_
  clear hm d' e6 ek; rcases List.mem_append.mp hz with hz | hz
  ·obtain ⟨j,hj,er⟩:=ht z hz
   exact ⟨j,hup j hj,er⟩
  ·rw [List.mem_singleton.mp hz]
   exact ⟨t,hup t tt,q2⟩
theorem sQa (S:St c m s.heap ρ H X) (hu:A.units + 2 < cLine) {o:V} {ro:Value} (ho:VR ρ o ro) (hi:VR ρ i ri) (hv:VR ρ v rv) (e:jP o i v H = some H')
  (k:sG c m s ρ X H' Q):wpAny (model D.prog D.w) A (setItem ro ri rv) Q E s:=by
 refine cps fun G_ g_=>?_
 obtain ⟨a,ea,e1⟩:=bind_eq e
 obtain ⟨o',e2,rfl⟩:=map_eq e1
 refine g_ ?_
 clear g_
 rw [iD ea] at ho
 clear e e1 ea
 cases eo:H[a]? with
 | none=>rw [eo] at e2; first | exact nos e2 | exact nof e2 | cases e2
 | some oo =>
  rw [eo] at e2
  obtain ⟨b,as,rfl,q1,o1⟩:=S.look ho eo
  clear ho; cases o1 with
  | list g vr l=>exact set_list S q1 hi hv eo g vr l e2 k
  | idict d p l=>exact qZa S q1 hi hv eo d p e2 k
  | dict d p l=>exact xIa S hu q1 hi hv eo d p e2 k
  | tdict d ek ht=>exact vSa S hu q1 hi eo d ek ht e2 k
  | tuple _ _ _=>first | exact nos e2 | exact nof e2 | cases e2
  | inst _ _ _ _ _ _=>first | exact nos e2 | exact nof e2 | cases e2
end
end
end Mine
end
section
open PySem PySem.W PyProof.Rows PySem.Calls
namespace Mine
section
variable {D:Wd} {c:Act D} {A:Around} {m m':PySem.Str→Option Value} {h h':Real} {s:Shared} {ρ:Rho} {H H':Heap} {X:List (Addr × Obj)} {E:Value→Shared→Prop} {Q:Value→Shared→Prop}
theorem lWa {i:Int} (h1:0 ≤ i) (h2:i < 10000000000):i.natAbs.log2 < 1920:=by
 by_cases h:i.natAbs = 0
 ·rw [h]; decide
 ·have e:(2:Nat) ^ 40 = 1099511627776:=by decide
  exact Nat.lt_trans ((Nat.log2_lt h).mpr (show i.natAbs < 2 ^ 40 by rw [e]; exact vQ h1 h2 (by decide))) (by decide)
theorem St.new_at (S:St c m s.heap ρ H X) {vs:List V} {rvs:List Value} {n:Nat} {tk:Nat} (hk:∀ b o,s.heap.get? b = some o→h'.get? b = some o) (e:h'.get? s.heap.objs.size = some (cL rvs n))
  (R:VRs (ρ ++ [(s.heap.objs.size,[])]) vs rvs) (hl:vs.length ≤ 2000) (k:cG c m s ρ X (.ref H.length) (H ++ [.list vs]) Q):Q (.ref s.heap.objs.size) { s with heap:=h',toks:=tk }:=by
 have hr:(ρ ++ [(s.heap.objs.size,[])])[H.length]? = some (s.heap.objs.size,([]:List Addr)):=mU S.sim.len
 obtain ⟨_,f1,f2,f3,f4⟩:=S.fresh_push (cL rvs n)
 refine k h' tk _ _ ⟨S.fr.keeps hk,S.sim.new hk (fun b hb=>?_) (List.nodup_cons.mpr ⟨List.not_mem_nil,List.nodup_nil⟩) (.list e R hl)⟩ (aQ.app _ _) (VR.ref (r:=(s.heap.objs.size,[])) hr)
 rw [List.mem_singleton.mp hb]
 exact ⟨⟨_,e⟩,f1,f2,f3,f4⟩
noncomputable def aRa:Blt→Value
 | .len=>.builtin "len"
 | .str=>.type "str"
 | .list=>.type "list"
 | .sum=>.builtin "sum"
theorem wYa {x:V} {rvs:List Value} (R:VRs ρ [x] rvs):∃ rv,rvs = [rv]∧VR ρ x rv:=by
 cases R with
 | cons h1 t1=>cases t1; exact ⟨_,rfl,h1⟩
theorem sZ {x:V} {vs:List V} {rvs:List Value} (R:VRs ρ vs rvs) (e:vs = [x]):∃ rv,rvs = [rv]∧VR ρ x rv:=by rw [e] at R; exact wYa R
theorem lQ (S:St c m s.heap ρ H X) {v:V} {rv:Value} {tk:Nat} (k:cG c m s ρ X v H Q) (hv:VR ρ v rv):Q rv { s with toks:=tk }:=k s.heap tk ρ rv S (aQ.refl _) hv
section
variable {x v:V} {rv:Value}
theorem xEa (S:St c m s.heap ρ H X) (hx:VR ρ x rv) (e:lenV x H = some (v,H')) (k:cG c m s ρ X v H' Q):wpAny (model D.prog D.w) A (call (.builtin "len") [rv]) Q E s:=by
 have lst:∀ {x:V},VR ρ x rv→(listAt H x).map (fun us=>(V.int us.length,H)) = some (v,H')→wpAny (model D.prog D.w) A (call (.builtin "len") [rv]) Q E s:=fun hx e=>by
  obtain ⟨us,e1,e2⟩:=map_eq e
  obtain ⟨b,rvs,n,rfl,g,vr,l⟩:=S.lst hx e1
  have hlen:=vr.length
  refine len_list (items:=rvs.toArray) ⟨_,g,rfl,_,rfl⟩ (by simp only [List.size_toArray]; exact Int.lt_of_le_of_lt (vX (b:=2000) (hlen ▸ l)) (by decide)) (lQ S (gW (congrArg some e2) k) ?_)
  rw [List.size_toArray,hlen]
  exact .int _ _
 cases x with
 | str x =>
  obtain ⟨hl,e1⟩:=bD e
  obtain ⟨t,rfl⟩:=hx.str_ rfl
  have hl:x.length ≤ lim:=of_decide_eq_true hl
  unfold lim at hl
  exact len_str (by exact fun q=>absurd (Int.le_trans q (vX (b:=16777216) hl)) (by decide)) (lQ S (gW e1 k) (.int _ _))
 | ref x=>exact lst hx e
 | none=>first | exact nos e | exact nof e | cases e
 | bool _=>first | exact nos e | exact nof e | cases e
 | int _=>first | exact nos e | exact nof e | cases e
theorem lZa (S:St c m s.heap ρ H X) (hx:VR ρ x rv) (e:bYa x H = some (v,H')) (k:cG c m s ρ X v H' Q):wpAny (model D.prog D.w) A (call (.type "str") [rv]) Q E s:=by
 cases x with
 | int i =>
  obtain ⟨hl,e1⟩:=bD e
  have hl:=of_decide_eq_true hl
  obtain ⟨t,rfl⟩:=hx.int_ rfl
  exact P.str_of_int (lWa hl.1 hl.2) (lQ S (gW e1 k) (.str _ _))
 | str x =>
  obtain ⟨t,rfl⟩:=hx.str_ rfl
  exact P.str_of_str (lQ S (gW e k) (.str _ _))
 | _=>first | exact nos e | exact nof e | cases e
theorem lTa (S:St c m s.heap ρ H X) (hx:VR ρ x rv) (e:((listAt H x).bind fun us=>fC us H) = some (v,H')) (k:cG c m s ρ X v H' Q):wpAny (model D.prog D.w) A (call (.type "list") [rv]) Q E s:=by
 obtain ⟨us,e1,e2⟩:=bind_eq e
 clear e; obtain ⟨hl,rfl,rfl⟩:=oU e2
 clear e2 hl; obtain ⟨b,rvs,n,rfl,g,vr,l⟩:=S.lst hx e1
 have hlen:=vr.length
 refine call_list_seq b (.inl rfl) g rfl rfl (fun h' c' hk e'=>?_) (by rw [List.size_toArray,hlen]; exact iR l)
 exact S.new_at (tk:=s.toks) hk e' (vr.grow (aQ.app _ _)) l k
theorem rZa (S:St c m s.heap ρ H X) (hh:A.handled = none) (hx:VR ρ x rv) (e:((listAt H x).bind fun us=>aP (us.all sO) (some (V.int ((us.map intOf).sum),H))) = some (v,H')) (k:cG c m s ρ X v H' Q):wpAny (model D.prog D.w) A (call (.builtin "sum") [rv]) Q E s:=by
 obtain ⟨us,e1,e2⟩:=bind_eq e
 obtain ⟨ha,e3⟩:=bD e2
 obtain ⟨b,rvs,n,rfl,g,vr,l⟩:=S.lst hx e1
 have k:=gW e3 k
 clear e e1 e2 e3
 clear hx l; obtain ⟨ys,hs,rfl⟩:=vr.ints ha
 obtain ⟨xs,ex⟩:=hs.allInts.items
 have hn:numsOf rvs.toArray.toList = ys:=hs.numsOf
 rw [ex,nums_intItems] at hn
 refine sum_intListG (xs:=xs) hh ⟨_,g,rfl,n,congrArg (fun z=>Data.seq z n) ex⟩ fun h' tk t' hk=>?_
 rw [preSum_eq,List.take_of_length_le (by simp),hn]
 refine k h' tk ρ _ (S.keeps hk) (aQ.refl _) ?_
 rw [show (ys.map V.int).map intOf = ys by rw [List.map_map]; exact List.map_id _]
 exact .int _ _
end
theorem jPa (S:St c m s.heap ρ H X) (hh:A.handled = none) {b:Blt} {vs:List V} {rvs:List Value} {v:V} (R:VRs ρ vs rvs) (e:lW b vs H = some (v,H')) (k:cG c m s ρ X v H' Q) :
  wpAny (model D.prog D.w) A (call (aRa b) rvs) Q E s:=by
 obtain ⟨x,hvs,e⟩:=sJ e
 obtain ⟨rv,rfl,hx⟩:=sZ R hvs
 clear R hvs; cases b with
 | len=>exact xEa S hx e k
 | str=>exact lZa S hx e k
 | list=>exact lTa S hx e k
 | sum=>exact rZa S hh hx e k
end
end Mine
end
section
open PySem PySem.W PyProof.Rows PySem.Calls
namespace Mine
theorem sFa {ρ:Rho} {es:List (PySem.Str × V)} {kvs:List (PySem.Str × Value)} (h:PR ρ es kvs) (k:PySem.Str):PR ρ (jY k es) (without kvs k):=by
 induction h with
 | nil=>exact .nil
 | @cons k' v rv es kvs h _ ih =>
  unfold jY without at ih ⊢
  rw [List.filter_cons,List.filter_cons]
  by_cases e:k' = k
  ·simp only [e,decide_true,Bool.not_true,ne_eq,not_true_eq_false,decide_false,Bool.false_eq_true,if_false]; exact ih
  ·simp only [e,decide_false,Bool.not_false,ne_eq,not_false_eq_true,decide_true,if_true]; exact .cons h ih
theorem gWa {k:PySem.Str}:∀ {es:List (PySem.Str × V)},look k es = none→jY k es = es
 | [],_=>rfl
 | (x,v) :: r,h=>by
  rw [mH] at h
  split at h
  ·first | exact nos h | exact nof h | cases h
  ·rename_i q
   have ih:=gWa (es:=r) h
   unfold jY at ih ⊢
   rw [List.filter_cons,ih]
   simp [q]
theorem set_same {H:Heap} {a:Nat} {o:O} (h:H[a]? = some o):H.set a o = H:=by
 obtain ⟨hl,e⟩:=List.getElem?_eq_some_iff.mp h
 rw [← e]; exact List.set_getElem_self hl
theorem mAa (k:PySem.Str) (es:List (PySem.Str × V)):(jY k es).length ≤ es.length:=List.length_filter_le _ _
theorem bKa:∀ {vs:List V} {ys:List PySem.Str},strsOf vs = some ys→vs = ys.map V.str
 | [],_,e=>by cases e; rfl
 | v :: r,ys,e=>by
  obtain ⟨x,ex,e1⟩:=bind_eq (show (asStr v).bind _ = some ys from e)
  clear e; obtain ⟨zs,ez,rfl⟩:=map_eq e1
  rw [bKa ez,nH ex]; rfl
theorem rEa (ys:List PySem.Str):(ys.map V.str).all qD = true:=by
 rw [List.all_eq_true]
 intro v hv
 obtain ⟨y,_,rfl⟩:=List.mem_map.mp hv
 rfl
theorem VRs.strs_of {ρ:Rho} {ys:List PySem.Str} {rvs:List Value} (h:VRs ρ (ys.map V.str) rvs):StrsAre rvs ys:=by
 obtain ⟨zs,hz,e⟩:=h.strs (rEa ys)
 have:ys = zs:=(List.map_inj_right (fun a b q=>by cases q; rfl)).mp e
 rw [this]; exact hz
section
variable {D:Wd} {c:Act D} {A:Around} {m m':PySem.Str→Option Value} {h h':Real} {s:Shared} {ρ:Rho} {H H':Heap} {X:List (Addr × Obj)} {E:Value→Shared→Prop} {Q:Value→Shared→Prop}
noncomputable def bmF:BM→Value
 | .join=>.builtin "str.join"
 | .startswith=>.builtin "str.startswith"
 | .isalpha=>.builtin "str.isalpha"
 | .append=>.builtin "list.append"
 | .index=>.builtin "list.index"
 | .get=>.builtin "dict.get"
 | .pop=>.builtin "dict.pop"
theorem rFa {x y:V} {rvs:List Value} (R:VRs ρ [x,y] rvs):∃ rx ry,rvs = [rx,ry]∧VR ρ x rx∧VR ρ y ry:=by
 cases R with
 | cons h1 t1 =>
  cases t1 with
  | cons h2 t2=>cases t2; exact ⟨_,_,rfl,h1,h2⟩
theorem St.dct (S:St c m h ρ H X) {a:Nat} {rv:Value} {es:List (PySem.Str × V)} (hv:VR ρ (.ref a) rv) (e:H[a]? = some (.dict es)):∃ b kvs,rv = .ref b∧ρ[a]? = some (b,[])∧h.DictOf (strKind D.prog D.w) b kvs∧PR ρ es kvs∧es.length ≤ 2000:=by
 refine cps fun G_ g_=>?_
 obtain ⟨b,as,rfl,q,o⟩:=S.look hv e
 refine g_ ?_
 clear g_
 clear hv e S; cases o with
 | dict d p l=>exact ⟨b,_,rfl,q,d,p,l⟩
section
variable {vs:List V} {o v:V} {ro:Value} {rvs:List Value}
theorem cHa {x y:V} (R:VRs ρ vs rvs) (e:vs = [x,y]):∃ rx ry,rvs = [rx,ry]∧VR ρ x rx∧VR ρ y ry:=by rw [e] at R; exact rFa R
theorem oJa (S:St c m s.heap ρ H X) (ho:VR ρ o ro) (R:VRs ρ vs rvs) (e:dI .join o vs H = some (v,H')) (k:cG c m s ρ X v H' Q):wpAny (model D.prog D.w) A (call (.builtin "str.join") (ro :: rvs)) Q E s:=by
 refine cps fun G_ g_=>?_
 obtain ⟨x,ex,e1⟩:=bind_eq e
 obtain ⟨y,hvs,e2⟩:=sJ e1
 obtain ⟨us,e3,e4⟩:=bind_eq e2
 obtain ⟨ys,ey,e5⟩:=bind_eq e4
 obtain ⟨hl,e6⟩:=bD e5
 clear e5 e4 e2 e1 e; obtain ⟨t0,rfl⟩:=ho.str_ ex
 clear ho ex; obtain ⟨ry,rfl,hy⟩:=sZ R hvs
 clear R hvs; obtain ⟨b,rvs,n,rfl,g,vr,l⟩:=S.lst hy e3
 refine g_ ?_
 clear g_
 rw [bKa ey] at vr
 exact join_list (items:=rvs.toArray) ⟨_,g,rfl,_,rfl⟩ vr.strs_of (of_decide_eq_true hl) fun t' kk=>by rw [show Txt.join x ys = PySem.Str.join x ys from StrLaws.glued_eq_join x ys]; exact lQ S (gW e6 k) (.str _ _)
theorem uKa (S:St c m s.heap ρ H X) (ho:VR ρ o ro) (R:VRs ρ vs rvs) (e:dI .startswith o vs H = some (v,H')) (k:cG c m s ρ X v H' Q):wpAny (model D.prog D.w) A (call (.builtin "str.startswith") (ro :: rvs)) Q E s:=by
 obtain ⟨x,ex,e1⟩:=bind_eq e
 obtain ⟨y,hvs,e2⟩:=sJ e1
 obtain ⟨t,et,e3⟩:=bind_eq e2
 obtain ⟨hl,e4⟩:=bD e3
 clear e3 e2 e1 e; obtain ⟨t0,rfl⟩:=ho.str_ ex
 clear ho ex; obtain ⟨ry,rfl,hy⟩:=sZ R hvs
 clear R hvs; obtain ⟨t1,rfl⟩:=hy.str_ et
 refine SC.startswith ?_
 rw [wEa (of_decide_eq_true hl)]
 exact lQ (tk:=s.toks) S (gW e4 k) (.bool _)
theorem rUa (S:St c m s.heap ρ H X) (ho:VR ρ o ro) (R:VRs ρ vs rvs) (e:dI .isalpha o vs H = some (v,H')) (k:cG c m s ρ X v H' Q):wpAny (model D.prog D.w) A (call (.builtin "str.isalpha") (ro :: rvs)) Q E s:=by
 obtain ⟨x,ex,e1⟩:=bind_eq e
 obtain ⟨hl,e2⟩:=bD e1
 obtain ⟨h1,h2⟩:=Bool.and_eq_true_iff.mp hl
 have h2:=of_decide_eq_true h2
 clear hl e1 e; obtain ⟨t0,rfl⟩:=ho.str_ ex
 rw [List.isEmpty_iff.mp h1] at R
 clear ho h1 ex; cases R
 refine SC.isalpha ?_
 rw [pEa h2.1,vUa _ h2.2]
 exact lQ (tk:=s.toks) S (gW e2 k) (.bool _)
theorem St.lstR (S:St c m h ρ H X) {a:Nat} (hv:VR ρ o ro) (ea:eU o = some a) {us:List V} (e:cN H[a]? = some us):∃ b rvs n,ro = .ref b∧ρ[a]? = some (b,[])∧h.get? b = some (cL rvs n)∧VRs ρ us rvs:=by
 cases iD ea
 clear ea; obtain ⟨b,as,rfl,q1,o1⟩:=S.look hv (kY e)
 clear hv e S; cases o1 with
 | @list _ rvs n g vr l=>exact ⟨b,rvs,n,rfl,q1,g,vr⟩
theorem tZa (S:St c m s.heap ρ H X) (ho:VR ρ o ro) (R:VRs ρ vs rvs) (e:dI .append o vs H = some (v,H')) (k:cG c m s ρ X v H' Q):wpAny (model D.prog D.w) A (call (.builtin "list.append") (ro :: rvs)) Q E s:=by
 refine cps fun G_ g_=>?_
 obtain ⟨a,ea,e1⟩:=bind_eq e
 obtain ⟨us,e2,e3⟩:=bind_eq e1
 obtain ⟨y,hvs,e4⟩:=sJ e3
 obtain ⟨hl,e5⟩:=bD e4
 have hl:=of_decide_eq_true hl
 clear e4 e3 e1 e; obtain ⟨ry,rfl,hy⟩:=sZ R hvs
 clear R hvs; obtain ⟨b,rvs,n,rfl,q1,g,vr⟩:=S.lstR ho ea e2
 refine g_ ?_
 clear g_
 have k:=gW e5 k
 have hlen:=vr.length
 refine append_at g (fun h' hs e'=>k h' s.toks ρ _ (S.turn (kY e2) (fun vs h=>nomatch h) q1 (.head _) hs ⟨_,e'⟩ ?_) (aQ.refl _) .none) (by rw [List.size_toArray,hlen]; exact iR (Nat.le_trans hl (by decide)))
 exact .list (rvs:=rvs ++ [_]) (n:=n + 1) (by simpa using e') (vr.append (.cons hy .nil)) (by rw [List.length_append]; exact Nat.le_trans (Nat.add_le_add_right hl 1) (by decide))
theorem nGa (S:St c m s.heap ρ H X) (ho:VR ρ o ro) (R:VRs ρ vs rvs) (e:dI .index o vs H = some (v,H')) (k:cG c m s ρ X v H' Q):wpAny (model D.prog D.w) A (call (.builtin "list.index") (ro :: rvs)) Q E s:=by
 refine cps fun G_ g_=>?_
 obtain ⟨us,e1,e2⟩:=bind_eq e
 obtain ⟨y,hvs,e3⟩:=sJ e2
 obtain ⟨t,et,e4⟩:=bind_eq e3
 obtain ⟨ha,e5⟩:=bD e4
 obtain ⟨j,hj,ej⟩:=map_eq e5
 obtain ⟨ry,rfl,hy⟩:=sZ R hvs
 clear R hvs; obtain ⟨tk,rfl⟩:=hy.str_ et
 clear et; obtain ⟨b,rvs,n,rfl,g,vr,l⟩:=S.lst ho e1
 have hlen:=vr.length
 have k:=gW (congrArg some ej) k
 clear e e1 e2 e3 e4 e5 ej
 clear ho; obtain ⟨ys,hs,rfl⟩:=vr.strs ha
 obtain ⟨hlt,e5,e6⟩:=StrsAre.idx hs _ hj
 refine g_ ?_
 clear g_
 exact call_meets PySem.F.slot_list_index ⟨_,g,rfl⟩ PySem.F.entry_list_index (PySem.F.args_list_index_2 _ _)
  (SeqAt.list_indexAt b rvs.toArray n none #[] (.str _ tk) (isStrOf _) j (by simpa using hlt) (zU_ hlt (Nat.le_trans (Nat.le_of_eq hlen) l)) (by simpa using e5) (by simpa using e6)) ⟨g,fun y hy=>(eq_isStrOf _ tk hs y (by simpa using hy)).at _ _,lQ S k (.int _ _)⟩
theorem sPa (S:St c m s.heap ρ H X) (ho:VR ρ o ro) (R:VRs ρ vs rvs) (e:dI .get o vs H = some (v,H')) (k:cG c m s ρ X v H' Q):wpAny (model D.prog D.w) A (call (.builtin "dict.get") (ro :: rvs)) Q E s:=by
 refine cps fun G_ g_=>?_
 obtain ⟨es,e1,e2⟩:=bind_eq e
 obtain ⟨x,y,hvs,e3⟩:=eWa e2
 obtain ⟨t,et,e4⟩:=map_eq e3
 clear e3 e2 e; obtain ⟨rx,ry,rfl,hx,hy⟩:=cHa R hvs
 clear R hvs; obtain ⟨tx,rfl⟩:=hx.str_ et
 clear hx et; obtain ⟨a,rfl,eo⟩:=aVa e1
 clear e1; obtain ⟨b,kvs,rfl,q1,d,p,l⟩:=S.dct ho eo
 refine g_ ?_
 clear g_
 refine call_meetsIn PySem.F.slot_dict_get d.mapOf.typeIs PySem.F.entry_dict_get (PySem.F.args_dict_get_3 _ _ _) (meets_dict_get_default _ _ (jF _ _ _ _) (S.low q1) _) ⟨_,d.mapOf,lQ S (gW (congrArg some e4) k) ?_⟩
 clear l d q1 ho eo e4 k S; rcases p.find t with ⟨h1,h3⟩ | ⟨v',rv,h1,h3,hv⟩
 ·rw [h1,h3]; exact hy
 ·rw [h1,h3]; exact hv
theorem iZa (S:St c m s.heap ρ H X) (ho:VR ρ o ro) (R:VRs ρ vs rvs) (e:dI .pop o vs H = some (v,H')) (k:cG c m s ρ X v H' Q):wpAny (model D.prog D.w) A (call (.builtin "dict.pop") (ro :: rvs)) Q E s:=by
 refine cps fun G_ g_=>?_
 obtain ⟨a,ea,e1⟩:=bind_eq e
 obtain ⟨es,e2,e3⟩:=bind_eq e1
 obtain ⟨x,y,hvs,e4⟩:=eWa e3
 obtain ⟨t,et,e5⟩:=bind_eq e4
 obtain ⟨hl,e6⟩:=bD e5
 have k:=gW e6 k
 clear e6 e5 e4 e3 e1 e; obtain ⟨rx,ry,rfl,hx,hy⟩:=cHa R hvs
 clear R hvs; obtain ⟨tx,rfl⟩:=hx.str_ et
 have eo:=yE e2
 clear hx et e2; obtain ⟨b,kvs,rfl,q1,d,p,l⟩:=S.dct (iD ea ▸ ho) eo
 refine g_ ?_
 clear g_
 have hpl:kvs.length ≤ 2000:=by rw [p.length]; exact Nat.le_trans (of_decide_eq_true hl) (by decide)
 clear ho hl ea; rcases p.find t with ⟨h1,h3⟩ | ⟨v',rv,h1,h3,hv⟩
 ·refine call_meetsIn PySem.F.slot_dict_pop d.mapOf.typeIs PySem.F.entry_dict_pop (PySem.F.args_dict_pop_3 _ _ _) (meets_dict_pop_default _ _ (jF _ _ _ _) (S.low q1) rfl _) ⟨kvs,d,h3,?_⟩
  refine k s.heap _ ρ _ ?_ (aQ.refl _) ?_
  ·rw [gWa h1,set_same eo]; exact S
  ·rw [h1]; exact hy
 ·refine call_meetsIn PySem.F.slot_dict_pop d.mapOf.typeIs PySem.F.entry_dict_pop (PySem.F.args_dict_pop_3 _ _ _) (meets_dict_pop_there _ b (jF _ _ _ _) [_] (.inr ⟨_,rfl⟩) rfl) ⟨kvs,_,d,iR hpl,h3,fun h' d' hs=>?_⟩
  refine k h' _ ρ _ (S.turn eo (fun vs h=>nomatch h) q1 (.head _) hs (DictOf.here d') ?_) (aQ.refl _) ?_
  ·exact .dict d' (sFa p _) (Nat.le_trans (mAa _ _) l)
  ·rw [h1]; exact hv
theorem tEa (S:St c m s.heap ρ H X) {b:BM} (ho:VR ρ o ro) (R:VRs ρ vs rvs) (e:dI b o vs H = some (v,H')) (k:cG c m s ρ X v H' Q) :
  wpAny (model D.prog D.w) A (call (bmF b) (ro :: rvs)) Q E s:=by
 cases b with
 | join=>exact oJa S ho R e k
 | startswith=>exact uKa S ho R e k
 | isalpha=>exact rUa S ho R e k
 | append=>exact tZa S ho R e k
 | index=>exact nGa S ho R e k
 | get=>exact sPa S ho R e k
 | pop=>exact iZa S ho R e k
end
end
end Mine
end
section
open PySem PySem.W PyProof.Rows PySem.Calls
namespace Mine
noncomputable def NsO (o:Obj) (mC:PySem.Str→Option Value):Prop:=∀ (h:Real) a,h.get? a = some o→h.Ns a mC
inductive Rd {D:Wd} (c:Act D) (penv:PySem.Env) (m:PySem.Str→Option Value) (C:List (Addr × Obj)) (x:PySem.Str) (rv:Value):Prop where
 | loc:penv.locals = c.L→penv.kindOf x = some .local→m x = some rv→Rd c penv m C x rv
 | cell {a o}:penv.kindOf x = some .cell→penv.cells.lookup x = some a→(a,o) ∈ C→o.data = .cell (some rv)→Rd c penv m C x rv
 | inn {o mC}:penv.kindOf x = some .local→(penv.locals,o) ∈ C→NsO o mC→mC x = some rv→Rd c penv m C x rv
structure AR {D:Wd} (c:Act D) (A:Around) (n d:Nat):Prop where
 hd:A.handled = none
 fr:A.frames = some (c.fenv :: c.outer)
 depth:A.depth + 3 * n + d < recursionLimit
 units:A.units + 40 * n + 30 * d < cLine
structure PK {D:Wd} (c:Act D) (Γ:Sc) (penv:PySem.Env):Prop where
 glob:penv.globals = mainGlobals
 bi:penv.builtins = builtinsNs
 kind:penv.scope.kind = .function
 gl:∀ x,Γ.glob x = true→penv.kindOf x = some .globalImplicit
 nd:∀ x k,Γ.kind x = some k→(x == ("__debug__":PySem.Str)) = false
 sl:Γ.slots.length ≤ Γ.n
 sn:Γ.slots.Nodup
 lk:∀ x,Γ.kind x = some .local→penv.kindOf x = some .local
 ck:Γ.inner = none→∀ x,Γ.kind x = some .cell→penv.kindOf x = some .cell∧∃ a,penv.cells.lookup x = some a
 lo:Γ.inner = none→penv.locals = c.L
structure Z (D:Wd) (n:Nat) (Γ:Sc) where
 c:Act D
 A:Around
 s₀:Shared
 penv:PySem.Env
 ar:AR c A n 3
 pk:PK c Γ penv
 m:PySem.Str→Option Value
 X:List (Addr × Obj)
 C:List (Addr × Obj)
 env:Mine.Env
structure Sg where
 s:Shared
 ρ:Rho
noncomputable def Rst (s₀ s:Shared):Prop:=s = { s₀ with heap:=s.heap,toks:=s.toks }
variable {D:Wd} {n:Nat} {Γ:Sc}
structure Ok (z:Z D n Γ) (σ:Sg) (H:Heap):Prop where
 st:St z.c z.m σ.s.heap σ.ρ H z.X
 rst:Rst z.s₀ σ.s
 sub:∀ p ∈ z.C,p ∈ z.X
 rd:∀ x i,Γ.loc x = some i→∀ v,z.env[i]? = some (some v)→∃ rv,Rd z.c z.penv z.m z.C x rv∧VR σ.ρ v rv
 ln:Γ.inner = none→Γ.slots.length ≤ z.env.length
noncomputable abbrev K (z:Z D n Γ) (σ:Sg) (v:V) (H':Heap) (Q:Value→Shared→Prop):Prop:=∀ σ' rv,Ok z σ' H'→aQ σ.ρ σ'.ρ→VR σ'.ρ v rv→Q rv σ'.s
noncomputable abbrev KL (z:Z D n Γ) (σ:Sg) (vs:List V) (H':Heap) (Q:List Value→Shared→Prop):Prop:=∀ σ' rvs,Ok z σ' H'→aQ σ.ρ σ'.ρ→VRs σ'.ρ vs rvs→Q rvs σ'.s
noncomputable abbrev KB (z:Z D n Γ) (σ:Sg) (b:Bool) (H':Heap) (Q:Bool→Shared→Prop):Prop:=∀ σ',Ok z σ' H'→aQ σ.ρ σ'.ρ→Q b σ'.s
theorem Rst.to {s₀ s:Shared} (r:Rst s₀ s) (h:Real) (tk:Nat):Rst s₀ { s with heap:=h,toks:=tk }:=by
 unfold Rst at r ⊢
 rw [r]
variable {z:Z D n Γ} {σ σ':Sg} {H H':Heap} {v:V} {E:Value→Shared→Prop} {Q:Value→Shared→Prop}
theorem Ok.to (o:Ok z σ H) {h':Real} {tk':Nat} {ρ':Rho} (S:St z.c z.m h' ρ' H' z.X) (g:aQ σ.ρ ρ'):Ok z ⟨{ σ.s with heap:=h',toks:=tk' },ρ'⟩ H' :=
 ⟨S,o.rst.to _ _,o.sub,fun x i hl v hv=>let ⟨rv,r,q⟩:=o.rd x i hl v hv; ⟨rv,r,q.grow g⟩,o.ln⟩
theorem Ok.k (o:Ok z σ H) (k:K z σ v H' Q):cG z.c z.m σ.s σ.ρ z.X v H' Q:=fun _ _ _ rv S g hv=>k ⟨_,_⟩ rv (o.to S g) g hv
theorem Ok.kq (o:Ok z σ H) (k:K z σ v H Q):∀ rv tk,VR σ.ρ v rv→Q rv { σ.s with toks:=tk }:=fun rv tk hv=>k ⟨{ σ.s with toks:=tk },σ.ρ⟩ rv (o.to (h':=σ.s.heap) o.st (aQ.refl _)) (aQ.refl _) hv
theorem Rd.more {c:Act D} {penv:PySem.Env} {m:PySem.Str→Option Value} {C C':List (Addr × Obj)} {x:PySem.Str} {rv:Value} (r:Rd c penv m C x rv) (hX:∀ p ∈ C,p ∈ C'):Rd c penv m C' x rv:=by
 cases r with
 | loc a b d=>exact .loc a b d
 | cell a b d e=>exact .cell a b (hX _ d) e
 | inn a b d e=>exact .inn a (hX _ b) d e
theorem wW {M:Model} {A:Around} {c:Act D} {m:PySem.Str→Option Value} {X:List (Addr × Obj)} {s:Shared} {ρ:Rho} {penv:PySem.Env} (S:St c m s.heap ρ H X) (hk:penv.scope.kind = .function) {x:PySem.Str} {rv:Value} (r:Rd c penv m X x rv) (k:Q rv s):wpAny M A (loadName penv x) Q E s:=by
 cases r with
 | loc e1 e2 e3=>exact wpAny_loadName_local hk e2 (by rw [e1]; exact S.fr.ns) e3 k
 | cell e1 e2 e3 e4=>exact wpAny_loadName_cell hk e1 e2 ⟨_,(S.sim.priv _ e3).1,e4⟩ k
 | inn e1 e2 e3 e4=>exact wpAny_loadName_local hk e1 (e3 _ _ (S.sim.priv _ e2).1) e4 k
theorem fQ {α:Type} {x:PySem.Str}:∀ {l:List (PySem.Str × α)} {a:α},at_ x l = some a→(x,a) ∈ l
 | [],_,h=>by cases h
 | p :: r,a,h=>by
  rw [bCa] at h
  split at h
  ·rename_i e; cases h; subst e; exact .head _
  ·exact .tail _ (fQ h)
theorem iI {k:NameKind} {o:Option NameKind} (h:isK k o = true):o = some k:=by
 cases o with
 | none=>first | exact nos h | exact nof h | cases h
 | some j=>exact congrArg some (beq_iff_eq.mp h)
theorem fSa {x:PySem.Str} {i:Nat} (h:Γ.loc x = some i):∃ k,Γ.kind x = some k:=by
 unfold Sc.loc at h
 cases q:Γ.kind x with
 | none=>rw [q] at h; first | exact nos h | exact nof h | cases h
 | some k=>exact ⟨k,rfl⟩
theorem Ok.name (o:Ok z σ H) {x:PySem.Str} {p:Pos} {i:Nat} (hl:Γ.loc x = some i) (hv:(z.env[i]?).join = some v) (k:∀ rv,VR σ.ρ v rv→Q rv σ.s):wpAny (model D.prog D.w) z.A (eval (.Name x p) z.penv) Q E σ.s:=by
 have e2:z.env[i]? = some (some v):=by
  cases q:z.env[i]? with
  | none=>rw [q] at hv; first | exact nos hv | exact nof hv | cases hv
  | some w=>rw [q] at hv; exact congrArg some hv
 obtain ⟨rv,r,q⟩:=o.rd x i hl v e2
 obtain ⟨kd,hk⟩:=fSa hl
 exact wpAny_Name (wW o.st z.pk.kind (r.more o.sub) (k rv q)) (z.pk.nd x kd hk)
theorem Ok.glob (o:Ok z σ H) {x:PySem.Str} {p:Pos} (hm:Γ.glob x = true) {w:Value} (hn:nsIn D.K mainGlobals x = some (some w)) (k:Q w σ.s):wpAny (model D.prog D.w) z.A (eval (.Name x p) z.penv) Q E σ.s :=
 nameG_K o.st.fr z.c.KX (topRead_of z.c.T) hn k z.pk.glob z.pk.kind (z.pk.gl x hm) (z.pk.nd x _ (iI hm))
theorem Ok.bltn (o:Ok z σ H) {x:PySem.Str} {p:Pos} (hm:Γ.glob x = true) {w:Value} (hn:nsIn D.K mainGlobals x = some none) (hb:bootBuiltins x = some w∧x ≠ "__name__") (k:Q w σ.s):wpAny (model D.prog D.w) z.A (eval (.Name x p) z.penv) Q E σ.s :=
 Name_function_global z.pk.kind (z.pk.gl x hm) (loadGlobal_builtin (by rw [z.pk.glob]; exact z.c.T.g.keeps o.st.fr.keep) (mg_none_of z.c.KX z.c.T.g hn) (by rw [z.pk.bi]; exact z.c.T.b.keeps o.st.fr.keep) ((z.c.T.builtins x hb.2).trans hb.1) k) (z.pk.nd x _ (iI hm))
structure GOk (D:Wd):Prop extends KOk D where
 fn:∀ p ∈ fnT,nsIn D.K mainGlobals p.1 = some (some (.ref (D.fa p.2)))
 keep:∀ f,keepIn D.K (.ref (D.fa f)) = true
 isfn:∀ f,isFn D.K (.ref (D.fa f)) = true
 cls:∀ p ∈ qP,nsIn D.K mainGlobals p.1 = some (some (.ref (D.ca p.2.1)))∧keepIn D.K (.ref (D.ca p.2.1)) = true∧makesIn D.K (D.ca p.2.1) = true∧findIn D.K (.ref (D.ca p.2.1)) "__init__" = some (some (.ref (D.fa p.2.2)))
 meth:∀ p ∈ qF,plainGet D.K (D.ca p.2.2) p.1 = true∧findIn D.K (.ref (D.ca p.2.2)) p.1 = some (some (.ref (D.fa p.2.1)))
 blt:∀ p ∈ pJ,nsIn D.K mainGlobals p.1 = some none
 rng:nsIn D.K mainGlobals (PySem.Str.ofString "range") = some none∧nsIn D.K mainGlobals (PySem.Str.ofString "reversed") = some none
noncomputable def uN (D:Wd) (cf:aU) (n:Nat):Prop:=∀ {c:Act D} {A:Around} {m:PySem.Str→Option Value} {s:Shared} {ρ:Rho} {H H':Heap} {X:List (Addr × Obj)} {f:F} {vs:List V} {rvs:List Value} {v:V} {R:Result→Shared→Prop},
 AR c A n 2→St c m s.heap ρ H X→VRs ρ vs rvs→cf f vs H = some (v,H')→(cG c m s ρ X v H' fun rv s'=>R (.ok (.ret rv)) s')→codeAny (model D.prog D.w) A (.call (.ref (D.fa f)) ⟨rvs,[]⟩) R s
structure mG (D:Wd) (cf:aU) (n:Nat):Prop where
 g:GOk D
 c:uN D cf n
noncomputable def SE (D:Wd) (n:Nat) (cf:aU) (Γ:Sc) (e:Expr) (t:IE):Prop :=
 ∀ (z:Z D n Γ) σ H H' v,Ok z σ H→aH cf z.env t H = some (v,H')→∀ Q E,K z σ v H' Q→wpAny (model D.prog D.w) z.A (eval e z.penv) Q E σ.s
noncomputable def SEs (D:Wd) (n:Nat) (cf:aU) (Γ:Sc) (es:List Expr) (ts:IEs):Prop :=
 ∀ (z:Z D n Γ) σ H H' vs pos,Ok z σ H→bN cf z.env ts H = some (vs,H')→∀ Q E,KL z σ vs H' Q→wpAny (model D.prog D.w) z.A (spliced (backTo pos (starEach es z.penv))) Q E σ.s
noncomputable def ST (D:Wd) (n:Nat) (cf:aU) (Γ:Sc) (e:Expr) (t:IT):Prop :=
 ∀ (z:Z D n Γ) σ H H' b,Ok z σ H→bZ cf z.env t H = some (b,H')→∀ whole Q E,whole = eval e z.penv→KB z σ b H' Q→wpAny (model D.prog D.w) z.A (isTrue e z.penv whole) Q E σ.s
noncomputable def STs (D:Wd) (n:Nat) (cf:aU) (Γ:Sc) (es:List Expr) (ts:ITs):Prop :=
 ∀ (z:Z D n Γ) σ H H' b,Ok z σ H→dU cf z.env ts H = some (b,H')→∀ Q E,KB z σ b H' Q →
  wpAny (model D.prog D.w) z.A (forIn es true fun c r=>if r = true then do let ok ← PySem.isTrue c z.penv (eval c z.penv); pure (ForInStep.yield ok) else pure (ForInStep.yield r)) Q E σ.s
theorem SE.dead {cf:aU} {e:Expr}:SE D n cf Γ e .dead:=fun z σ H H' v _ ev=>by cases (show none = some _ from ev)
end Mine
end
section
open PySem PySem.W PyProof.Rows PySem.Calls
namespace Mine
theorem hAa {ρ:Rho}:∀ {xs:List PySem.Str} {vs:List V} {kvs acc:List (PySem.Str × Value)} {es:List (PySem.Str × V)},PR ρ es acc→(acc.map (·.1)).Nodup→kvs.map (·.1) = xs→VRs ρ vs (kvs.map (·.2)) →
  PR ρ ((xs.zip vs).foldl (fun d e=>put e.1 e.2 d) es) (merged acc kvs)
 | _,_,[],acc,es,p,nd,e,v=>by
  cases e; cases v; exact p
 | _,_,(k,u) :: kvs,acc,es,p,nd,e,v=>by
  subst e
  cases v with
  | cons h1 t1 =>
   show PR ρ (List.foldl _ (put k _ es) _) (merged (stored acc k u) kvs)
   rw [vW _ _ nd]
   exact hAa (p.put h1 k) (iSa nd) rfl t1
section
variable {D:Wd} {c:Act D} {A:Around} {m m':PySem.Str→Option Value} {h h':Real} {s:Shared} {ρ ρ':Rho} {H H' H1:Heap} {X X':List (Addr × Obj)} {E:Value→Shared→Prop}
theorem St.hide (S:St c m h ρ H X) {a:Addr} {ob:Obj} (hk:∀ b x,h.get? b = some x→h'.get? b = some x) (hn:h.get? a = none) (e:h'.get? a = some ob) (hL:a ≠ c.L) (h0:c.h₀.get? a = none):St c m h' ρ H ((a,ob) :: X):=by
 have S':=S.keeps hk
 refine ⟨S'.fr,S'.sim.len,S'.sim.cont,S'.sim.nd,S'.sim.fresh,fun x hx=>?_,?_⟩
 ·clear hk; rcases List.mem_cons.mp hx with rfl | hx
  ·refine ⟨e,hL,h0,fun hm=>?_⟩
   obtain ⟨⟨o,eo⟩,_⟩:=S.sim.fresh _ hm
   rw [hn] at eo; first | exact nos eo | exact nof eo | cases eo
  ·exact S'.sim.priv x hx
 ·rw [List.map_cons,List.nodup_cons]
  refine ⟨fun hm=>?_,S.sim.xnd⟩
  obtain ⟨y,hy,ey⟩:=List.mem_map.mp hm
  have:=(S.sim.priv y hy).1
  rw [ey] at this
  rw [hn] at this; first | exact nos this | exact nof this | cases this
theorem St.hide_push (S:St c m h ρ H X) (ob:Obj) (hfree:ob.isFreed = false:=by rfl):St c m (h.push ob) ρ H ((h.objs.size,ob) :: X):=by
 refine cps fun G_ g_=>?_
 obtain ⟨_,f1,f2,f3,_⟩:=S.fresh_push ob hfree
 refine g_ ?_
 clear g_
 exact S.hide (fun b x e=>Heap.get?_push_of_some _ e) f1 (Heap.get?_push_size _ hfree) f2 f3
theorem St.drop {p:Addr × Obj} (S:St c m h ρ H (p :: X)):St c m h ρ H X :=
 ⟨S.fr,S.sim.len,S.sim.cont,S.sim.nd,S.sim.fresh,fun x hx=>S.sim.priv x (.tail _ hx),(List.nodup_cons.mp (by have:=S.sim.xnd; rwa [List.map_cons] at this)).2⟩
structure Behind {D:Wd} (c:Act D) (h:Real) (ρ:Rho) (X:List (Addr × Obj)) (d:Addr) (ob:Obj):Prop where
 g:h.get? d = some ob
 l:d ≠ c.L
 n:c.h₀.get? d = none
 m:d ∉ mine ρ X
theorem St.behind {d:Addr} {ob:Obj} (S:St c m h ρ H ((d,ob) :: X)):Behind c h ρ X d ob:=by
 refine cps fun G_ g_=>?_
 obtain ⟨a,b,e,f⟩:=S.sim.priv _ (.head _)
 refine g_ ?_
 clear g_
 refine ⟨a,b,e,fun hm=>?_⟩
 clear e b a; rcases List.mem_append.mp hm with hm | hm
 ·exact f hm
 ·have:=S.sim.xnd
  rw [List.map_cons,List.nodup_cons] at this
  exact this.1 hm
theorem St.turnX {d:Addr} {ob ob':Obj} (S:St c m h ρ H ((d,ob) :: X)) (hs:Heap.SameBut d h h') (e:h'.get? d = some ob'):St c m h' ρ H ((d,ob') :: X):=by
 obtain ⟨_,hL,h0,hm⟩:=S.behind
 have F':=Fr.off S.fr hL h0 hs
 have S':pW D c.h₀ c.L h' ρ H X:=S.drop.sim.carry (fun a ha o eo=>(hs.2 a fun q=>hm (q ▸ ha)).trans eo) fun a ha=>by
  clear hs; rcases List.mem_append.mp ha with ha | ha
  ·exact ⟨(S.sim.fresh a ha).2.1,(S.sim.fresh a ha).2.2.1⟩
  ·obtain ⟨x,hx,rfl⟩:=List.mem_map.mp ha
   exact ⟨(S.sim.priv x (.tail _ hx)).2.1,(S.sim.priv x (.tail _ hx)).2.2.1⟩
 refine ⟨F',S'.len,S'.cont,S'.nd,S'.fresh,fun x hx=>?_,S.sim.xnd⟩
 clear F' hs S; rcases List.mem_cons.mp hx with rfl | hx
 ·exact ⟨e,hL,h0,fun q=>hm (List.mem_append_left _ q)⟩
 ·exact S'.priv x hx
theorem St.reveal {d:Addr} {ob:Obj} {o:O} (S:St c m h ρ H ((d,ob) :: X)) (hd:sysModules < d) (hO:OR D.prog D.w D.ca h (ρ ++ [(d,[])]) (cV (H ++ [o])) d [] o):St c m h (ρ ++ [(d,[])]) (H ++ [o]) X:=by
 refine cps fun G_ g_=>?_
 obtain ⟨e,hL,h0,hm⟩:=S.behind
 refine g_ ?_
 clear g_
 refine ⟨S.fr,S.drop.sim.add (fun b hb=>?_) (List.nodup_cons.mpr ⟨List.not_mem_nil,List.nodup_nil⟩) hO⟩
 rw [List.mem_singleton.mp hb]
 exact ⟨⟨_,e⟩,hm,hL,h0,hd⟩
theorem St.dropBut {d:Addr} {ob:Obj} (S:St c m h ρ H ((d,ob) :: X)) (he:Heap.ExtBut d h h'):St c m h' ρ H X:=by
 refine cps fun G_ g_=>?_
 obtain ⟨_,hL,h0,hm⟩:=S.behind
 refine g_ ?_
 clear g_
 refine ⟨⟨S.fr.ns.at' fun o e=>he _ o (Ne.symm hL) e,fun b o e=>?_,S.fr.above⟩,S.drop.sim.carry (fun a ha o eo=>he a o (fun q=>hm (q ▸ ha)) eo) fun a ha=>?_⟩
 ·exact he b o (fun q=>by rw [q,h0] at e; cases e) (S.fr.keep b o e)
 ·clear hm h0 hL he; rcases List.mem_append.mp ha with ha | ha
  ·exact ⟨(S.sim.fresh a ha).2.1,(S.sim.fresh a ha).2.2.1⟩
  ·obtain ⟨x,hx,rfl⟩:=List.mem_map.mp ha
   exact ⟨(S.sim.priv x (.tail _ hx)).2.1,(S.sim.priv x (.tail _ hx)).2.2.1⟩
theorem St.perm (S:St c m h ρ H X) (p:X.Perm X'):St c m h ρ H X' :=
 ⟨S.fr,S.sim.len,S.sim.cont,S.sim.nd,S.sim.fresh,fun x hx=>S.sim.priv x (p.mem_iff.mpr hx),((p.map (·.1)).nodup_iff).mp S.sim.xnd⟩
theorem St.kept (S:St c m h ρ H X) (he:Heap.ExtBut h.objs.size h h'):St c m h' ρ H X :=
 S.keeps fun b o e=>he b o (fun q=>Nat.lt_irrefl _ (q ▸ Heap.lt_size e)) e
end
theorem jIa {α:Type} {l:List (Bool × α)} (h:l.any (·.1) = false):l.all (fun x=>!x.1) = true:=by
 rw [List.any_eq_false] at h
 rw [List.all_eq_true]
 intro x hx
 simpa using h x hx
theorem xV {o:Expr} (h:baseOk o = true) (a:PySem.Str) (env:PySem.Env) (whole:Sem Value):attributeBase o a env whole = whole:=by
 cases o <;> first | rfl | exact nof h
section
variable {M:Model} {A:Around} {E:Value→Shared→Prop} {s:Shared} {env:PySem.Env}
theorem iKa {o:Expr} {name:PySem.Str} {apos pos:Pos} {args:List Expr} {Q:Value→Shared→Prop}
  (hbase:baseOk o = true) (hst:(backTo pos (starEach args env)).any (·.1) = false) (hlen:decide (args.length < 30) = true)
  (hline:(apos.endLine == pos.line) = true)
  (h:wpAny M A (eval o env) (fun ov s₁=>∀ pl,wpAny M A (getMethod ov name pl) (fun fx s₂=>wpAny M A (callWith pos fx.1 fx.2 (backTo pos (starEach args env)) []) Q E s₂) E s₁) E s) :
  wpAny M A (eval (.Call (.Attribute o name apos) args [] pos) env) Q E s:=by
 rw [arm_eval_Call,xV hbase]
 refine wpAny_bind (wpAny_mono h (fun ov s₁ h₁=>?_) fun _ _ e=>e)
 refine wpAny_bind (wpAny_standAt ?_)
 have hform:methodCallForm (args.length + ([]:List Keyword).length) (backTo pos (starEach args env)) (backToKw pos (keywordEach [] env)) = true:=by
  unfold methodCallForm
  rw [jIa hst]
  have hk:backToKw pos (keywordEach [] env) = []:=rfl
  rw [hk]
  simpa using hlen
 have hpos:methodCallPos true o env apos pos = pure pos:=by unfold methodCallPos; simp [hline]
 unfold methodCall
 rw [hform]
 unfold calleeOf
 simp only [if_true]
 refine wpAny_bind (wpAny_holding (wpAny_mono (h₁ _) (fun fx s₂ h₂=>?_) fun _ _ e=>e))
 exact wpAny_bind (wpAny_of_eq hpos h₂)
end
theorem oA {e:Expr} {rest:List Expr} {penv:PySem.Env} (h:notStar e = true):starEach (e :: rest) penv = (false,eval e penv) :: starEach rest penv:=by
 cases e <;> first | rfl | exact nos h | exact nof h | cases h
theorem stars {penv:PySem.Env} {pos:Pos}:∀ {es:List Expr},(∀ e ∈ es,notStar e = true)→(backTo pos (starEach es penv)).any (·.1) = false
 | [],_=>rfl
 | e :: r,h=>by
  have ih:=stars (penv:=penv) (pos:=pos) (es:=r) fun e he=>h e (.tail _ he)
  rw [oA (h e (.head _))]
  show (false || (backTo pos (starEach r penv)).any (·.1)) = false
  rw [ih]; rfl
theorem live {cf:aU} {env:Mine.Env} {f:Expr→IE}:∀ {es:List Expr} {H:Heap} {r:List V × Heap},bN cf env (gP (es.map fun a=>iffE (notStar a) (f a))) H = some r→∀ e ∈ es,notStar e = true
 | [],_,_,_=>fun _ h=>nomatch h
 | e :: es,H,x,h=>by
  have h':bnd (aH cf env (iffE (notStar e) (f e)) H) _ = some x:=h
  refine cps fun G_ g_=>?_
  obtain ⟨v,H1,e1,h1⟩:=aW h'
  obtain ⟨vs,H2,e2,h2⟩:=aW h1
  refine g_ ?_
  clear g_
  intro a ha
  clear h2 h1 h' h; rcases List.mem_cons.mp ha with rfl | ha
  ·cases q:notStar a with
   | true=>rfl
   | false=>rw [q] at e1; cases (show none = some _ from e1)
  ·exact live e2 a ha
variable {D:Wd} {n:Nat} {Γ:Sc} {cf:aU} {z:Z D n Γ} {σ:Sg} {H H1:Heap} {E:Value→Shared→Prop} {es:List Expr} {f:Expr→IE} {pos:Pos} {vs:List V} {Q:Value→Shared→Prop} {first:List Value}
theorem qH (ih:∀ e,SE D n cf Γ e (f e)):∀ es,SEs D n cf Γ es (gP (es.map fun a=>iffE (notStar a) (f a)))
 | []=>fun z σ H H' vs pos o ev Q E k=>by
  have ev:some (([]:List V),H) = some (vs,H'):=ev
  cases ev
  exact args_nil (k σ _ o (aQ.refl _) .nil)
 | e :: es=>fun z σ H H' vs pos o ev Q E k=>by
  have hs:=live ev
  have h':bnd (aH cf z.env (iffE (notStar e) (f e)) H) _ = some (vs,H'):=ev
  refine cps fun G_ g_=>?_
  obtain ⟨v,H1,e1,h1⟩:=aW h'
  obtain ⟨vs2,H2,e2,h2⟩:=aW h1
  refine g_ ?_
  clear g_
  clear h1 h' ev; cases h2
  rw [hs e (.head _)] at e1
  exact args_cons (ih e z σ H H1 v o e1 _ _ fun σ1 rv o1 g1 hv=>qH ih es z σ1 H1 H' vs2 pos o1 e2 _ _ fun σ2 rvs o2 g2 hvs=>k σ2 _ o2 (g1.trans g2) (.cons (hv.grow g2) hvs)) (oA (hs e (.head _)))
theorem yJ (ih:∀ e,SE D n cf Γ e (f e)) (o:Ok z σ H) (ev:bN cf z.env (gP (es.map fun a=>iffE (notStar a) (f a))) H = some (vs,H1)) {g:Value} (hk:keepIn D.K g = true)
  (k:KL z σ vs H1 fun rvs s₁=>wpAny (model D.prog D.w) z.A (call g (first ++ rvs)) Q E s₁):wpAny (model D.prog D.w) z.A (callWith pos g first (backTo pos (starEach es z.penv)) []) Q E σ.s:=by
 have hs:=live ev
 cases es with
 | nil =>
  have ev:some (([]:List V),H) = some (vs,H1):=ev
  cases ev
  exact callWith_K0 (z.c.KX.keeps o.st.fr.keep) hk (k σ [] o (aQ.refl _) .nil)
 | cons e es =>
  exact callWith_K z.c.KX hk (qH ih _ z σ H H1 vs pos o ev _ _ fun σ1 rvs o1 g hv=>⟨z.c.KX.keeps o1.st.fr.keep,k σ1 rvs o1 g hv⟩) (oA (hs e (.head _))) (stars fun a ha=>hs a (.tail _ ha))
theorem yL (ih:∀ e,SE D n cf Γ e (f e)) (o:Ok z σ H) (ev:bN cf z.env (gP (es.map fun a=>iffE (notStar a) (f a))) H = some (vs,H1)) {id:String}
  (k:KL z σ vs H1 fun rvs s₁=>wpAny (model D.prog D.w) z.A (call (.builtin id) (first ++ rvs)) Q E s₁):wpAny (model D.prog D.w) z.A (callWith pos (.builtin id) first (backTo pos (starEach es z.penv)) []) Q E σ.s:=by
 have hs:=live ev
 cases es with
 | nil =>
  have ev:some (([]:List V),H) = some (vs,H1):=ev
  cases ev
  refine callWith_method0 ?_
  have:=k σ [] o (aQ.refl _) .nil
  dsimp only at this
  rwa [List.append_nil] at this
 | cons e es=>exact callWith_method1 (qH ih _ z σ H H1 vs pos o ev _ _ k) (oA (hs e (.head _))) (stars fun a ha=>hs a (.tail _ ha))
theorem dHa (ih:∀ e,SE D n cf Γ e (f e)) (o:Ok z σ H) (ev:bN cf z.env (gP (es.map fun a=>iffE (notStar a) (f a))) H = some (vs,H1)) {id:String}
  (k:KL z σ vs H1 fun rvs s₁=>wpAny (model D.prog D.w) z.A (call (.type id) rvs) Q E s₁):wpAny (model D.prog D.w) z.A (callWith pos (.type id) [] (backTo pos (starEach es z.penv)) []) Q E σ.s:=by
 have hs:=live ev
 cases es with
 | nil =>
  have ev:some (([]:List V),H) = some (vs,H1):=ev
  cases ev
  exact callWith_type0 (k σ [] o (aQ.refl _) .nil)
 | cons e es=>exact callWith_type1 (qH ih _ z σ H H1 vs pos o ev _ _ k) (oA (hs e (.head _))) (stars fun a ha=>hs a (.tail _ ha))
theorem oPa:∀ p ∈ pJ,bootBuiltins p.1 = some (aRa p.2)∧p.1 ≠ "__name__":=by
 intro p hp
 simp only [pJ,List.mem_cons,List.not_mem_nil,or_false] at hp
 rcases hp with rfl | rfl | rfl | rfl <;> exact ⟨by decide +kernel,by decide⟩
end Mine
end
section
open PySem PySem.W PyProof.Rows PySem.Calls
namespace Mine
section
variable {D:Wd} {c:Act D} {A:Around} {m:PySem.Str→Option Value} {s:Shared} {ρ:Rho} {H:Heap} {X:List (Addr × Obj)} {E:Value→Shared→Prop}
theorem some_of {α:Type} {o:Option α} (h:o.isSome = true):∃ a,o = some a:=by
 cases o with
 | none=>first | exact nos h | exact nof h | cases h
 | some a=>exact ⟨a,rfl⟩
theorem xMa (S:St c m s.heap ρ H X) {b:BM} {g:PySem.Str} (hb:(g,b) ∈ bmT) {o:V} {ro:Value} (ho:VR ρ o ro) (e:qC b o H = true) {pl:Sem Bool} {Q:Value × List Value→Shared→Prop} (k:Q (bmF b,[ro]) s) :
  wpAny (model D.prog D.w) A (getMethod ro g pl) Q E s:=by
 have lst:∀ {name:PySem.Str} {id:String},(listAt H o).isSome = true→PySem.Slot "list" name id→typeOf (.builtin id) = pure (.type "method_descriptor")→Q (.builtin id,[ro]) s →
   wpAny (model D.prog D.w) A (getMethod ro name pl) Q E s:=by
  intro name id e1 sl ty k
  refine cps fun G_ g_=>?_
  obtain ⟨us,e2⟩:=some_of e1
  obtain ⟨b,rvs,n,rfl,g,vr,l⟩:=S.lst ho e2
  refine g_ ?_
  clear g_
  exact getMethod_builtin (T:="list") ⟨_,g,rfl⟩ F.plainAttrs_list sl ty (fun a' ea=>by cases ea; exact ⟨_,g,rfl⟩) k
 have dct:∀ {name:PySem.Str} {id:String},(dictAt H o).isSome = true→PySem.Slot "dict" name id→typeOf (.builtin id) = pure (.type "method_descriptor")→Q (.builtin id,[ro]) s →
   wpAny (model D.prog D.w) A (getMethod ro name pl) Q E s:=by
  intro name id e1 sl ty k
  obtain ⟨us,e2⟩:=some_of e1
  obtain ⟨a,rfl,e3⟩:=aVa e2
  obtain ⟨b,kvs,rfl,q1,d,p,l⟩:=S.dct ho e3
  exact getMethod_builtin d.mapOf.typeIs F.plainAttrs_dict sl ty d.mapOf.noDict k
 have str:∀ {name:PySem.Str} {id:String},(asStr o).isSome = true→PySem.Slot "str" name id→typeOf (.builtin id) = pure (.type "method_descriptor")→Q (.builtin id,[ro]) s →
   wpAny (model D.prog D.w) A (getMethod ro name pl) Q E s:=by
  intro name id e1 sl ty k
  obtain ⟨x,e2⟩:=some_of e1
  clear e1 S; cases nH e2
  clear e2; cases ho
  exact getMethod_builtin (typeIs_str s x _) F.plainAttrs_str sl ty (fun a' ea=>nomatch ea) k
 simp only [bmT,List.mem_cons,List.not_mem_nil,or_false,Prod.mk.injEq] at hb
 clear ho S; rcases hb with ⟨rfl,rfl⟩ | ⟨rfl,rfl⟩ | ⟨rfl,rfl⟩ | ⟨rfl,rfl⟩ | ⟨rfl,rfl⟩ | ⟨rfl,rfl⟩ | ⟨rfl,rfl⟩
 ·exact str e F.slot_str_join F.type_str_join k
 ·exact str e F.slot_str_startswith F.type_str_startswith k
 ·exact str e F.slot_str_isalpha F.type_str_isalpha k
 ·exact lst e F.slot_list_append F.type_list_append k
 ·exact lst e F.slot_list_index F.type_list_index k
 ·exact dct e F.slot_dict_get F.type_dict_get k
 ·exact dct e F.slot_dict_pop F.type_dict_pop k
end
theorem qRa {D:Wd} {n:Nat} {Γ:Sc} {cf:aU} {z:Z D n Γ} {σ:Sg} {H H1:Heap} {E:Value→Shared→Prop} {es:List Expr} {f:Expr→IE} {pos:Pos} {vs:List V} {Q:Value→Shared→Prop} {first:List Value} (ih:∀ e,SE D n cf Γ e (f e)) (o:Ok z σ H) (ev:bN cf z.env (gP (es.map fun a=>iffE (notStar a) (f a))) H = some (vs,H1)) {b:BM}
  (k:KL z σ vs H1 fun rvs s₁=>wpAny (model D.prog D.w) z.A (call (bmF b) (first ++ rvs)) Q E s₁):wpAny (model D.prog D.w) z.A (callWith pos (bmF b) first (backTo pos (starEach es z.penv)) []) Q E σ.s:=by
 cases b <;> exact yL ih o ev k
theorem sKa {H:Heap} {x:V} {c:Cls} (h:oW c x H = true):∃ fs,mW H x = some (c,fs):=by
 unfold oW at h
 cases q:mW H x with
 | none=>rw [q] at h; first | exact nos h | exact nof h | cases h
 | some p =>
  rw [q] at h
  obtain ⟨d,fs⟩:=p
  clear q; cases d <;> cases c <;> first | exact ⟨fs,rfl⟩ | exact nos h | exact nof h | cases h
end Mine
end
section
open PySem PySem.W PyProof.Rows PySem.Calls
namespace Mine
theorem AR.call {D:Wd} {c:Act D} {A:Around} {n:Nat} (a:AR c A n 3):AR c A n 2:=⟨a.hd,a.fr,by have:=a.depth; exact lin [_,_,_] (.a (.a (.a .x (.m 3 .y)) (.n 2)) (.n 1)) .z [(.a (.a (.a .x (.m 3 .y)) (.n 3)) (.n 1),.z)] rfl this,by have:=a.units; exact lin [_,_,_] (.a (.a (.a .x (.m 40 .y)) (.n 60)) (.n 1)) .z [(.a (.a (.a .x (.m 40 .y)) (.n 90)) (.n 1),.z)] rfl this⟩
theorem AR.low {D:Wd} {c:Act D} {A:Around} {n d:Nat} (a:AR c A n d):A.units < cLine:=by have:=a.units; exact lin [_,_,_,_] (.a .x (.n 1)) .y [(.a (.a (.a .x (.m 40 .z)) (.m 30 .w)) (.n 1),.y)] rfl this
theorem AR.make {D:Wd} {c:Act D} {A:Around} {n:Nat} {C:Addr} {pos:List Value} {kw:List (PySem.Str × Value)} (a:AR c A n 3):AR c (A.under (.builtin "type.__call__" ⟨.ref C :: pos,kw⟩)) n 2:=by
 have hw:Code.weight (.builtin "type.__call__" ⟨.ref C :: pos,kw⟩) = 1:=by kernel_rfl
 have hu:Code.cUnits (.builtin "type.__call__" ⟨.ref C :: pos,kw⟩) = 1:=by kernel_rfl
 refine ⟨a.hd,a.fr,?_,?_⟩
 ·show A.depth + Code.weight _ + 3 * n + 2 < _
  have:=a.depth
  exact lin [_,_,_,_] (.a (.a (.a (.a .x .y) (.m 3 .z)) (.n 2)) (.n 1)) .w [(.a (.a (.a .x (.m 3 .z)) (.n 3)) (.n 1),.w),(.y,.n 1)] rfl this (Nat.le_of_eq hw)
 ·show A.units + Code.cUnits _ + 40 * n + 30 * 2 < _
  have:=a.units
  exact lin [_,_,_,_] (.a (.a (.a (.a .x .y) (.m 40 .z)) (.m 30 (.n 2))) (.n 1)) .w [(.a (.a (.a .x (.m 40 .z)) (.m 30 (.n 3))) (.n 1),.w),(.y,.n 1)] rfl this (Nat.le_of_eq hu)
variable {D:Wd} {n:Nat} {Γ:Sc} {cf:aU} {z:Z D n Γ} {σ:Sg} {H H1 H':Heap} {E:Value→Shared→Prop} {f:Expr→IE} {pos:Pos} {Q:Value→Shared→Prop}
theorem pIa (c:Const) (k:Nat) (p:Pos):SE D n cf Γ (.Constant c k p) (bXa c):=fun z σ H H' v o ev Q E kk=>by
 cases c with
 | none=>cases ev; exact wpAny_Constant_none (o.kq kk _ σ.s.toks .none)
 | bool b=>cases ev; exact wpAny_Constant_bool (o.kq kk _ σ.s.toks (.bool b))
 | int i=>cases ev; exact wpAny_Constant_int (o.kq kk _ _ (.int i _))
 | str x=>cases ev; exact wpAny_Constant_str (o.kq kk _ _ (.str x _))
 | _=>exact SE.dead z σ H H' v o ev Q E kk
theorem pKa (x:PySem.Str) (p:Pos):SE D n cf Γ (.Name x p) (optE (Γ.loc x) .loc):=fun z σ H H' v o ev Q E kk=>by
 cases hl:Γ.loc x with
 | none=>rw [hl] at ev; exact SE.dead z σ H H' v o ev Q E kk
 | some i =>
  rw [hl] at ev
  obtain ⟨e1,rfl⟩:=iW (show cD (z.env[i]?).join H = some (v,H') from ev)
  exact o.name hl e1 fun rv hv=>kk σ rv o (aQ.refl _) hv
theorem bW {a b:Expr} {ta tb:IE} {op:Operator} {p:Pos} (ha:SE D n cf Γ a ta) (hb:SE D n cf Γ b tb):SE D n cf Γ (.BinOp a op b p) (.bin op ta tb):=fun z σ H H' v o ev Q E kk=>by
 obtain ⟨x,H1,e1,h1⟩:=aW (show bnd (aH cf z.env ta H) _ = some (v,H') from ev)
 obtain ⟨y,H2,e2,h2⟩:=aW h1
 exact wpAny_BinOp (ha z σ H H1 x o e1 _ _ fun σ1 rx o1 g1 hx=>hb z σ1 H1 H2 y o1 e2 _ _ fun σ2 ry o2 g2 hy =>
  kFa o2.st (hx.grow g2) hy h2 (o2.k fun σ3 rv o3 g3 hv=>kk σ3 rv o3 (g1.trans (g2.trans g3)) hv))
theorem uVa {a:Expr} {ta:IE} {p:Pos} (ha:SE D n cf Γ a ta):SE D n cf Γ (.UnaryOp .USub a p) (.neg ta):=fun z σ H H' v o ev Q E kk=>by
 obtain ⟨x,H1,e1,h1⟩:=aW (show bnd (aH cf z.env ta H) _ = some (v,H') from ev)
 obtain ⟨i,ei,h2⟩:=map_eq h1
 clear h1 ev; cases h2
 cases iZ ei
 refine UnaryOp_ (ha z σ H _ _ o e1 _ _ fun σ1 rx o1 g1 hx=>?_)
 clear e1 ei o ha; cases hx
 exact neg_int (o1.kq (fun σ2 rv o2 g2 hv=>kk σ2 rv o2 (g1.trans g2) hv) _ _ (.int _ _))
theorem rK {M:Model} {A:Around} {ρ:Rho} {v:V} {rv:Value} {b:Bool} {s:Shared} (hv:VR ρ v rv) (e:lH v = some b) {Q:Bool→Shared→Prop} (k:Q b s):wpAny M A (truthy rv) Q E s:=by
 cases eGa e
 clear e; cases hv
 exact wpAny_truthy_bool k
theorem qNa {a:Expr} {ta:IE} {p:Pos} (ha:SE D n cf Γ a ta):SE D n cf Γ (.UnaryOp .Not a p) (.not ta):=fun z σ H H' v o ev Q E kk=>by
 obtain ⟨x,H1,e1,h1⟩:=aW (show bnd (aH cf z.env ta H) _ = some (v,H') from ev)
 obtain ⟨b,eb,h2⟩:=map_eq h1
 clear h1 ev; cases h2
 exact UnaryOp_ (ha z σ H _ _ o e1 _ _ fun σ1 rx o1 g1 hx=>not_of (rK hx eb (kk σ1 _ o1 g1 (.bool _))))
theorem uG {a b:Expr} {ta tb:IE} {p:Pos} (ha:SE D n cf Γ a ta) (hb:SE D n cf Γ b tb):SE D n cf Γ (.BoolOp .And [a,b] p) (.and ta tb):=fun z σ H H' v o ev Q E kk=>by
 obtain ⟨x,H1,e1,h1⟩:=aW (show bnd (aH cf z.env ta H) _ = some (v,H') from ev)
 obtain ⟨t,et,h2⟩:=bind_eq h1
 refine BoolOp_and (ha z σ H H1 x o e1 _ _ fun σ1 rx o1 g1 hx=>rK hx et ?_)
 clear et h1 e1 ev o ha; cases t with
 | true=>exact BoolOp_one (hb z σ1 H1 H' v o1 h2 _ _ fun σ2 ry o2 g2 hy=>kk σ2 ry o2 (g1.trans g2) hy)
 | false=>cases h2; exact kk σ1 rx o1 g1 hx
theorem wBa {a b c:Expr} {es:List Expr} {ta tb:IE} {p:Pos} (ha:SE D n cf Γ a ta) (hb:SE D n cf Γ (.BoolOp .And (b :: c :: es) p) tb):SE D n cf Γ (.BoolOp .And (a :: b :: c :: es) p) (.and ta tb):=fun z σ H H' v o ev Q E kk=>by
 obtain ⟨x,H1,e1,h1⟩:=aW (show bnd (aH cf z.env ta H) _ = some (v,H') from ev)
 obtain ⟨t,et,h2⟩:=bind_eq h1
 refine BoolOp_and (ha z σ H H1 x o e1 _ _ fun σ1 rx o1 g1 hx=>rK hx et ?_)
 clear et h1 e1 ev o ha; cases t with
 | true=>exact hb z σ1 H1 H' v o1 h2 _ _ fun σ2 ry o2 g2 hy=>kk σ2 ry o2 (g1.trans g2) hy
 | false=>cases h2; exact kk σ1 rx o1 g1 hx
theorem vJa {a b:Expr} {ta tb:IE} {p:Pos} (ha:SE D n cf Γ a ta) (hb:SE D n cf Γ b tb):SE D n cf Γ (.BoolOp .Or [a,b] p) (.or ta tb):=fun z σ H H' v o ev Q E kk=>by
 obtain ⟨x,H1,e1,h1⟩:=aW (show bnd (aH cf z.env ta H) _ = some (v,H') from ev)
 obtain ⟨t,et,h2⟩:=bind_eq h1
 refine BoolOp_or (ha z σ H H1 x o e1 _ _ fun σ1 rx o1 g1 hx=>rK hx et ?_)
 clear et h1 e1 ev o ha; cases t with
 | false=>exact BoolOp_one (hb z σ1 H1 H' v o1 h2 _ _ fun σ2 ry o2 g2 hy=>kk σ2 ry o2 (g1.trans g2) hy)
 | true=>cases h2; exact kk σ1 rx o1 g1 hx
theorem nQ {t a b:Expr} {tt:IT} {ta tb:IE} {p:Pos} (ht:ST D n cf Γ t tt) (ha:SE D n cf Γ a ta) (hb:SE D n cf Γ b tb):SE D n cf Γ (.IfExp t a b p) (.ite tt ta tb):=fun z σ H H' v o ev Q E kk=>by
 obtain ⟨x,H1,e1,h1⟩:=aW (show bnd (bZ cf z.env tt H) _ = some (v,H') from ev)
 refine IfExp_ (ht z σ H H1 x o e1 _ _ _ rfl fun σ1 o1 g1=>?_)
 clear e1 ev o ht; cases x with
 | true=>exact ha z σ1 H1 H' v o1 h1 _ _ fun σ2 ry o2 g2 hy=>kk σ2 ry o2 (g1.trans g2) hy
 | false=>exact hb z σ1 H1 H' v o1 h1 _ _ fun σ2 ry o2 g2 hy=>kk σ2 ry o2 (g1.trans g2) hy
theorem fW {a b:Expr} {ta tb:IE} {op:CmpOp} {p:Pos} (hm:behindInMarks op b = false) (ha:SE D n cf Γ a ta) (hb:SE D n cf Γ b tb):SE D n cf Γ (.Compare a [op] [b] p) (.cmp op ta tb):=fun z σ H H' v o ev Q E kk=>by
 obtain ⟨x,H1,e1,h1⟩:=aW (show bnd (aH cf z.env ta H) _ = some (v,H') from ev)
 obtain ⟨y,H2,e2,h2⟩:=aW h1
 obtain ⟨c,ec,h3⟩:=map_eq h2
 clear h2 h1 ev; cases h3
 exact wpAny_Compare1 (ha z σ H H1 x o e1 _ _ fun σ1 rx o1 g1 hx=>hb z σ1 H1 _ y o1 e2 _ _ fun σ2 ry o2 g2 hy =>
  wG (D:=D) (A:=z.A) o2.st z.ar.low (hx.grow g2) hy ec fun tk=>o2.kq (fun σ3 rv o3 g3 hv=>kk σ3 rv o3 (g1.trans (g2.trans g3)) hv) _ tk (.bool _)) hm
theorem qQa (hG:GOk D) {a:Expr} {ta:IE} {x:PySem.Str} {i:Nat} {p:Pos} (hx:idx x atL = some i) (hbs:baseOk a = true) (ha:SE D n cf Γ a ta):SE D n cf Γ (.Attribute a x p) (.attr ta i):=fun z σ H H' v o ev Q E kk=>by
 obtain ⟨y,H1,e1,h1⟩:=aW (show bnd (aH cf z.env ta H) _ = some (v,H') from ev)
 clear ev; obtain ⟨e2,rfl⟩:=iW h1
 refine Attribute_any_ (ha z σ H _ y o e1 _ _ fun σ1 rx o1 g1 hy=>?_) (by rw [arm_eval_Attribute,xV hbs])
 rw [xU hx]
 exact cMa o1.st hG.toKOk hy (nO hx) e2 (o1.k fun σ2 rv o2 g2 hv=>kk σ2 rv o2 (g1.trans g2) hv)
theorem gC {a b:Expr} {ta tb:IE} {p:Pos} (ha:SE D n cf Γ a ta) (hb:SE D n cf Γ b tb):SE D n cf Γ (.Subscript a b p) (.sub ta tb):=fun z σ H H' v o ev Q E kk=>by
 obtain ⟨x,H1,e1,h1⟩:=aW (show bnd (aH cf z.env ta H) _ = some (v,H') from ev)
 obtain ⟨y,H2,e2,h2⟩:=aW h1
 clear h1 ev; obtain ⟨e3,rfl⟩:=iW h2
 exact Subscript_ (ha z σ H H1 x o e1 _ _ fun σ1 rx o1 g1 hx=>hb z σ1 H1 _ y o1 e2 _ _ fun σ2 ry o2 g2 hy =>
  oOa o2.st (hx.grow g2) hy e3 (o2.k fun σ3 rv o3 g3 hv=>kk σ3 rv o3 (g1.trans (g2.trans g3)) hv))
theorem yN {a b:Expr} {ta tb:IE} {p p1:Pos} (ha:SE D n cf Γ a ta) (hb:SE D n cf Γ b tb):SE D n cf Γ (.Subscript a (.Slice (some b) none none p1) p) (.tail ta tb):=fun z σ H H' v o ev Q E kk=>by
 obtain ⟨x,H1,e1,h1⟩:=aW (show bnd (aH cf z.env ta H) _ = some (v,H') from ev)
 obtain ⟨y,H2,e2,h2⟩:=aW h1
 exact Subscript_ (ha z σ H H1 x o e1 _ _ fun σ1 rx o1 g1 hx=>wpAny_Slice (wpAny_evalPart_some (hb z σ1 H1 H2 y o1 e2 _ _ fun σ2 ry o2 g2 hy =>
  wpAny_evalPart_none (wpAny_evalPart_none (mOa o2.st (hx.grow g2) hy h2 (o2.k fun σ3 rv o3 g3 hv=>kk σ3 rv o3 (g1.trans (g2.trans g3)) hv))))))
theorem bU {es:List Expr} {ts:IEs} {p:Pos} (h:SEs D n cf Γ es ts):SE D n cf Γ (.List es p) (.list ts):=fun z σ H H' v o ev Q E kk=>by
 obtain ⟨vs,H1,e1,h1⟩:=aW (show bnd (bN cf z.env ts H) _ = some (v,H') from ev)
 exact List_ (h z σ H H1 vs _ o e1 _ _ fun σ1 rvs o1 g1 hv=>jOa o1.st hv h1 (o1.k fun σ2 rv o2 g2 hv=>kk σ2 rv o2 (g1.trans g2) hv))
theorem fV {es:List Expr} {ts:IEs} {j:Nat} {p:Pos} (h:SEs D n cf Γ es ts):SE D n cf Γ (.Tuple es j p) (.tuple ts):=fun z σ H H' v o ev Q E kk=>by
 obtain ⟨vs,H1,e1,h1⟩:=aW (show bnd (bN cf z.env ts H) _ = some (v,H') from ev)
 exact Tuple_ (h z σ H H1 vs _ o e1 _ _ fun σ1 rvs o1 g1 hv=>tHa o1.st hv h1 (o1.k fun σ2 rv o2 g2 hv=>kk σ2 rv o2 (g1.trans g2) hv))
end Mine
end
section
open PySem PySem.W PyProof.Rows PySem.Calls
namespace Mine
variable {D:Wd} {n:Nat} {Γ:Sc} {cf:aU} {z:Z D n Γ} {σ:Sg} {H H1 H':Heap} {E:Value→Shared→Prop} {r:Tr} {pos:Pos} {Q:Value→Shared→Prop}
theorem SE.iffE {b:Bool} {e:Expr} {t:IE} (h:b = true→SE D n cf Γ e t):SE D n cf Γ e (Mine.iffE b t):=by
 cases b with
 | true=>exact h rfl
 | false=>exact SE.dead
theorem SE.optE {α:Type} {o:Option α} {e:Expr} {f:α→IE} (h:∀ a,o = some a→SE D n cf Γ e (f a)):SE D n cf Γ e (Mine.optE o f):=by
 cases o with
 | none=>exact SE.dead
 | some a=>exact h a rfl
theorem rMa (ε:mG D cf n) {c:Act D} {A:Around} {m:PySem.Str→Option Value} {s:Shared} {ρ:Rho} {X:List (Addr × Obj)} (a:AR c A n 3) (S:St c m s.heap ρ H X) {p:PySem.Str × Cls × F} (hg:p ∈ qP) {vs:List V} {rvs:List Value} {v:V} (R:VRs ρ vs rvs)
  (e:gUa cf p.2.1 p.2.2 vs H = some (v,H')) {Q:Value→Shared→Prop} (k:cG c m s ρ X v H' Q):wpAny (model D.prog D.w) A (call (.ref (D.ca p.2.1)) rvs) Q E s:=by
 obtain ⟨g,cc,f⟩:=p
 obtain ⟨hne,e0⟩:=bD e
 obtain ⟨w,H1,e1,e2⟩:=aW e0
 obtain ⟨hr,e3⟩:=bD e2
 clear e2 e0 e; cases e3
 cases gZa hr
 obtain ⟨hn1,hn2,hn3,hn4⟩:=ε.g.cls _ hg
 refine call_cls S.fr c.KX S.news hn3 hn4 (ε.g.isfn f) fun x dx h' F' N' lt lt2=>?_
 have S0:=S.again F' N' fun p hp=>.tail _ (.tail _ hp)
 have hx:=N' _ (.head _)
 have hd:=N' _ (.tail _ (.head _))
 have old:∀ b ∈ mine ρ X,b < dx:=fun b hb=>let ⟨o,eo⟩:=S.here hb; lt _ (iQ.mpr ⟨hb,eo⟩)
 have hm:sysModules < dx:=by
  clear lt N' hn4 hn3 hn2 hn1 hg; cases hH:H with
  | nil=>rw [hH] at hne; first | exact nos hne | exact nof hne | cases hne
  | cons o r =>
   clear hne; obtain ⟨rr,er,_⟩:=S.sim.cont 0 o (by rw [hH]; rfl)
   have hb:rr.1 ∈ own ρ:=eV er (.head _)
   exact Nat.lt_trans (S.sim.fresh _ hb).2.2.2 (old _ (List.mem_append_left _ hb))
 have hr:(ρ ++ [(x,[dx])])[H.length]? = some (x,[dx]):=mU S.sim.len
 have S':St c m h' (ρ ++ [(x,[dx])]) (H ++ [.inst cc []]) X:=by
  refine ⟨F',S0.sim.add (fun b hb=>?_) (List.nodup_cons.mpr ⟨fun q=>?_,List.nodup_cons.mpr ⟨List.not_mem_nil,List.nodup_nil⟩⟩) (.inst hx.1 hd.1 .nil List.nodup_nil .nil fun f hf=>nomatch hf)⟩
  ·clear S0 lt N' F' hn4 hn3 hn2 hn1 hne hg S; rcases List.mem_cons.mp hb with rfl | hb
   ·exact ⟨⟨_,hx.1⟩,fun q=>Nat.lt_asymm (old _ q) lt2,hx.2.1,hx.2.2,Nat.lt_trans hm lt2⟩
   ·rw [List.mem_singleton.mp hb]
    exact ⟨⟨_,hd.1⟩,fun q=>Nat.lt_irrefl _ (old _ q),hd.2.1,hd.2.2,hm⟩
  ·rw [List.mem_singleton.mp q] at lt2
   exact Nat.lt_irrefl _ lt2
 refine ε.c a.make S' (.cons (VR.ref (r:=(x,[dx])) hr) (R.grow (aQ.app _ _))) e1 fun h2 tk2 ρ2 rv S2 g2 hv2=>?_
 clear S' hm old hd hx S0 lt2 lt N' F' hn4 hn3 hn2 hn1 e1 hne hg R S a; cases hv2
 exact ⟨rfl,k h2 tk2 ρ2 _ S2 ((aQ.app _ _).trans g2) (VR.ref (r:=(x,[dx])) (g2 _ _ hr))⟩
theorem sZa (ε:mG D cf n) (ih:∀ e,SE D n cf Γ e (r.e Γ e)) (g:PySem.Str) (p1:Pos) (as:List Expr) (p:Pos):SE D n cf Γ (.Call (.Name g p1) as [] p) (bUa r Γ g as):=by
 refine SE.iffE fun hm=>?_
 cases hf:at_ g fnT with
 | some f =>
  exact fun z σ H H' v o ev Q E kk=>by
   obtain ⟨vs,H1,e1,h1⟩:=aW (show bnd (bN cf z.env (jZ r Γ as) H) _ = some (v,H') from ev)
   refine Call_ (o.glob hm (ε.g.fn _ (fQ hf)) ?_) (by rfl)
   refine yJ (first:=[]) ih o e1 (ε.g.keep _) fun σ1 rvs o1 g1 hv=>?_
   exact wpAny_call (ε.c z.ar.call o1.st hv h1 (o1.k fun σ2 rv o2 g2 hv2=>kk σ2 rv o2 (g1.trans g2) hv2))
 | none =>
  clear hf; cases hc:at_ g qP with
  | some q =>
   exact fun z σ H H' v o ev Q E kk=>by
    obtain ⟨vs,H1,e1,h1⟩:=aW (show bnd (bN cf z.env (jZ r Γ as) H) _ = some (v,H') from ev)
    have hc:=fQ hc
    refine Call_ (o.glob hm (ε.g.cls _ hc).1 ?_) (by rfl)
    refine yJ (first:=[]) ih o e1 (ε.g.cls _ hc).2.1 fun σ1 rvs o1 g1 hv=>?_
    exact rMa ε z.ar o1.st hc hv h1 (o1.k fun σ2 rv o2 g2 hv2=>kk σ2 rv o2 (g1.trans g2) hv2)
  | none =>
   clear hc; cases hb:at_ g pJ with
   | some b =>
    exact fun z σ H H' v o ev Q E kk=>by
     obtain ⟨vs,H1,e1,h1⟩:=aW (show bnd (bN cf z.env (jZ r Γ as) H) _ = some (v,H') from ev)
     have hb:=fQ hb
     refine Call_ (o.bltn hm (ε.g.blt _ hb) (oPa _ hb) ?_) (by rfl)
     have fin:KL z σ vs H1 fun rvs s₁=>wpAny (model D.prog D.w) z.A (call (aRa b) rvs) Q E s₁:=fun σ1 rvs o1 g1 hv=>jPa o1.st z.ar.hd hv h1 (o1.k fun σ2 rv o2 g2 hv2=>kk σ2 rv o2 (g1.trans g2) hv2)
     clear hb h1 kk ev hm; cases b with
     | len=>exact yL (first:=[]) ih o e1 fin
     | sum=>exact yL (first:=[]) ih o e1 fin
     | str=>exact dHa ih o e1 fin
     | list=>exact dHa ih o e1 fin
   | none=>exact SE.dead
theorem uXa:∀ p ∈ qF,∀ i < 38,p.1 ≠ cX i:=by
 have:(qF.all fun p=>(List.range 38).all fun i=>decide (p.1 ≠ cX i)) = true:=by decide +kernel
 intro p hp i hi
 have h1:=List.all_eq_true.mp this p hp
 exact of_decide_eq_true (List.all_eq_true.mp h1 i (List.mem_range.mpr hi))
theorem bOa {g:PySem.Str}:∀ {fs:List (Nat × V)},(∀ f ∈ fs,g ≠ cX f.1)→look g (fs.map fun f=>(cX f.1,f.2)) = none
 | [],_=>rfl
 | (k,v) :: r,h=>by
  rw [List.map_cons]
  rw [mH]
  rw [if_neg (fun q=>h _ (.head _) q.symm)]
  exact bOa fun f hf=>h f (.tail _ hf)
theorem kBa (ε:mG D cf n) (ih:∀ e,SE D n cf Γ e (r.e Γ e)) (ob:Expr) (m:PySem.Str) (p1:Pos) (as:List Expr) (p:Pos):SE D n cf Γ (.Call (.Attribute ob m p1) as [] p) (dZa r Γ ob m p1 p as):=by
 refine SE.iffE fun hm=>?_
 rw [Bool.and_eq_true,Bool.and_eq_true] at hm
 obtain ⟨⟨hb,hl⟩,hn⟩:=hm
 cases hf:at_ m qF with
 | some q =>
  exact fun z σ H H' v o ev Q E kk=>by
   obtain ⟨x,H1,e1,h1⟩:=aW (show bnd (aH cf z.env (r.e Γ ob) H) _ = some (v,H') from ev)
   obtain ⟨hi,h2⟩:=bD h1
   obtain ⟨vs,H2,e2,h3⟩:=aW h2
   have hf:=fQ hf
   refine iKa hb (stars (live e2)) hn hl (ih ob z σ H H1 x o e1 _ _ fun σ1 rx o1 g1 hx pl=>?_)
   obtain ⟨fs,hq⟩:=sKa hi
   obtain ⟨a1,b,d,rfl,rfl,_,q1,oo⟩:=o1.st.ins hx hq
   clear q1 hq; cases oo with
   | @inst dd _ _ kvs es' nn gg1 gg2 ps nd pp lt =>
   obtain ⟨m1,m2⟩:=ε.g.meth _ hf
   refine method_inst o1.st.fr z.c.KX ⟨gg1,rfl,rfl,gg2⟩ m1 m2 (ε.g.isfn _) ?_ ?_
   ·rw [uO _ ps]
    clear m2 m1 gg1 gg2 nd ps; rcases pp.find m with ⟨_,h2⟩ | ⟨v',rv,h4,_,_⟩
    ·rw [h2]
    ·rw [bOa fun f hf'=>uXa _ hf _ (lt f hf')] at h4; first | exact nos h4 | exact nof h4 | cases h4
   ·refine yJ (first:=[.ref b]) ih o1 e2 (ε.g.keep _) fun σ2 rvs o2 g2 hv=>?_
    exact wpAny_call (ε.c z.ar.call o2.st (.cons (hx.grow g2) hv) h3 (o2.k fun σ3 rv o3 g3 hv3=>kk σ3 rv o3 (g1.trans (g2.trans g3)) hv3))
 | none =>
  clear hf; cases hc:at_ m bmT with
  | some b =>
   exact fun z σ H H' v o ev Q E kk=>by
    obtain ⟨x,H1,e1,h1⟩:=aW (show bnd (aH cf z.env (r.e Γ ob) H) _ = some (v,H') from ev)
    obtain ⟨hi,h2⟩:=bD h1
    obtain ⟨vs,H2,e2,h3⟩:=aW h2
    refine iKa hb (stars (live e2)) hn hl (ih ob z σ H H1 x o e1 _ _ fun σ1 rx o1 g1 hx pl=>?_)
    refine xMa o1.st (fQ hc) hx hi ?_
    exact qRa (first:=[rx]) ih o1 e2 fun σ2 rvs o2 g2 hv=>tEa o2.st (hx.grow g2) hv h3 (o2.k fun σ3 rv o3 g3 hv3=>kk σ3 rv o3 (g1.trans (g2.trans g3)) hv3)
  | none=>exact SE.dead
end Mine
end
section
open PySem PySem.W PyProof.Rows PySem.Calls
namespace Mine
theorem xDa:∀ {a b:V},pL a b = true→a = b:=by
 intro a b h
 cases a <;> cases b <;> first | rfl | cases h | (have:=of_decide_eq_true h; subst this; rfl) | (have:=beq_iff_eq.mp h; subst this; rfl)
theorem fNa:∀ {a b:List V},nJ a b = true→a = b
 | [],[],_=>rfl
 | [],_ :: _,h=>by cases h
 | _ :: _,[],h=>by cases h
 | x :: a,y :: b,h=>by
  obtain ⟨h1,h2⟩:=Bool.and_eq_true_iff.mp (show (pL x y && nJ a b) = true from h)
  rw [xDa h1,fNa h2]
theorem sI {vs:List V} {o:Option (List V)} (h:okL vs o = true):o = some vs:=by
 cases o with
 | none=>first | exact nos h | exact nof h | cases h
 | some us=>rw [fNa (show nJ us vs = true from h)]
noncomputable def fWa (n:String):Bool:=["enumerate","zip","dict_itemiterator","dict_reverseitemiterator","odict_iterator","itertools.zip_longest","itertools.pairwise"].contains n
theorem pA {prog:Program} {w:World} {A:Around} {E:Value→Shared→Prop} {s:Shared} {target:Expr} {I:Addr} {v:Value} {ob:Obj} {n:String} {vs:Array Value} {Q:Unit→Shared→Prop} (hg:s.heap.get? I = some ob) (hc:ob.cls = .type n) (hd:ob.data = .fields vs)
  (hn:fWa n = false) (hQ:Q () s):wpAny (model prog w) A (letOwnedTupleGo target (.ref I) v) Q E s:=by
 have h:=wpAny_pure (M:=model prog w) (A:=A) (E:=E) hQ
 have t:∀ {p k},wpAny (model prog w) A (letOwnedTupleGo (.Tuple [] p k) (.ref I) v) Q E s:=by
  intro p k
  cases v with
  | ref a =>
   refine wpAny_bind (wpAny_load hg ?_)
   rw [hc,hd]
   show wpAny _ A (if (fWa n && vs[0]? == some (rawInt a)) = true then _ else _) Q E s
   rw [hn,Bool.false_and,if_neg Bool.false_ne_true]
   exact h
  | _=>exact h
 cases target <;> first | exact h | exact t (p:=0) (k:=default)
section
variable {D:Wd} {c:Act D} {A:Around} {m m':PySem.Str→Option Value} {h h':Real} {s:Shared} {ρ ρ':Rho} {H H' H1:Heap} {X X':List (Addr × Obj)} {E:Value→Shared→Prop}
structure Itr (D:Wd) (A:Around) (I:Addr) (it:It) (P:Nat→Obj→Rho→Prop):Prop where
 next:∀ {c:Act D} {i:Nat} {ob:Obj} {s:Shared} {ρ:Rho} {H:Heap} {X:List (Addr × Obj)} {m:PySem.Str→Option Value} {v:V} {Q:Option Value→Shared→Prop} {E:Value→Shared→Prop},P i ob ρ→St c m s.heap ρ H ((I,ob) :: X)→it.ok H = true→it.items[i]? = some v →
  (∀ h' tk ob' rv,St c m h' ρ H ((I,ob') :: X)→P (i + 1) ob' ρ→VR ρ v rv→Q (some rv) { s with heap:=h',toks:=tk })→wpAny (model D.prog D.w) A (pyNext (.ref I)) Q E s
 done:∀ {c:Act D} {i:Nat} {ob:Obj} {s:Shared} {ρ:Rho} {H:Heap} {X:List (Addr × Obj)} {m:PySem.Str→Option Value} {Q:Option Value→Shared→Prop} {E:Value→Shared→Prop},P i ob ρ→St c m s.heap ρ H ((I,ob) :: X)→it.ok H = true→it.items[i]? = none →
  (∀ h' tk,St c m h' ρ H X→Q none { s with heap:=h',toks:=tk })→wpAny (model D.prog D.w) A (pyNext (.ref I)) Q E s
 grow:∀ {i:Nat} {ob:Obj} {ρ ρ':Rho},P i ob ρ→aQ ρ ρ'→P i ob ρ'
 self:∀ {i:Nat} {ob:Obj} {ρ:Rho} {s:Shared} {Q:Value→Shared→Prop} {E:Value→Shared→Prop},P i ob ρ→s.heap.get? I = some ob→Q (.ref I) s→wpAny (model D.prog D.w) A (pyIter (.ref I)) Q E s
 lot:∀ {i:Nat} {ob:Obj} {ρ:Rho} {s:Shared} {Q:Unit→Shared→Prop} {E:Value→Shared→Prop} {target:Expr} {v:Value},P i ob ρ→s.heap.get? I = some ob→Q () s→wpAny (model D.prog D.w) A (letOwnedTupleGo target (.ref I) v) Q E s
inductive dEa (a:Nat) (i:Nat) (ob:Obj) (ρ:Rho):Prop where
 | mk (l as):ρ[a]? = some (l,as)→ob.cls = .type "list_iterator"→ob.data = .fields #[.ref l,.int i 0]→dEa a i ob ρ
theorem tFa (hh:A.handled = none) {I:Addr} {a:Nat} {vs:List V}:Itr D A I ⟨vs,.list a vs⟩ (dEa a) where
 next:=fun {c i ob s ρ H X m v Q E} p S hok hv k=>by
  obtain ⟨l,as,er,hc,hd⟩:=p
  have e1:H[a]? = some (.list vs):=kY (sI hok)
  obtain ⟨r,er',o1⟩:=S.sim.cont _ _ e1
  rw [er] at er'
  cases er'
  obtain ⟨g0,_⟩:=S.behind
  cases o1 with
  | @list _ rvs n g vr ll =>
  obtain ⟨rv,eg,hvr⟩:=vr.get hv
  refine wpAny_pyNext_list_item ⟨ob,g0,hc,hd⟩ ⟨_,g,rfl,_,rfl⟩ (toA eg) fun h' hit hs=>?_
  obtain ⟨ob',g',hc',hd'⟩:=hit
  exact k h' s.toks ob' rv (S.turnX hs g') ⟨l,_,er,hc',hd'⟩ hvr
 done:=fun {c i ob s ρ H X m Q E} p S hok hv k=>by
  obtain ⟨l,as,er,hc,hd⟩:=p
  have e1:H[a]? = some (.list vs):=kY (sI hok)
  obtain ⟨r,er',o1⟩:=S.sim.cont _ _ e1
  rw [er] at er'
  cases er'
  obtain ⟨g0,_⟩:=S.behind
  cases o1 with
  | @list _ rvs n g vr ll =>
  have hlen:=vr.length
  have:vs.length ≤ i:=List.getElem?_eq_none_iff.mp hv
  refine wpAny_pyNext_list_end hh ⟨ob,g0,hc,hd⟩ ⟨_,g,rfl,_,rfl⟩ (by simp; exact lin [_,_,_] .x .y [(.x,.z),(.z,.y)] rfl (Nat.le_of_eq hlen) this) fun h' he=>k h' s.toks (S.dropBut he)
 grow:=fun ⟨l,as,er,r,q⟩ g=>⟨l,as,g _ _ er,r,q⟩
 self:=fun ⟨l,as,er,hc,hd⟩ e k=>wpAny_pyIter_listiter ⟨_,e,hc,hd⟩ k
 lot:=fun ⟨l,as,er,hc,hd⟩ e k=>pA e hc hd (by decide) k
inductive eAa (a:Nat) (i:Nat) (ob:Obj) (ρ:Rho):Prop where
 | mk (l as):ρ[a]? = some (l,as)→ob.cls = .type "tuple_iterator"→ob.data = .fields #[.ref l,.int i 0]→eAa a i ob ρ
theorem sCa (hh:A.handled = none) {I:Addr} {a:Nat} {vs:List V}:Itr D A I ⟨vs,.tup a vs⟩ (eAa a) where
 next:=fun {c i ob s ρ H X m v Q E} p S hok hv k=>by
  obtain ⟨l,as,er,hc,hd⟩:=p
  have e1:H[a]? = some (.tuple vs):=wD (sI hok)
  obtain ⟨r,er',o1⟩:=S.sim.cont _ _ e1
  rw [er] at er'
  cases er'
  obtain ⟨g0,_⟩:=S.behind
  cases o1 with
  | @tuple _ rvs n g vr ll =>
  obtain ⟨rv,eg,hvr⟩:=vr.get hv
  refine wpAny_pyNext_tuple_item ⟨ob,g0,hc,hd⟩ ⟨_,g,rfl,_,rfl⟩ (toA eg) fun h' hit hs=>?_
  obtain ⟨ob',g',hc',hd'⟩:=hit
  exact k h' s.toks ob' rv (S.turnX hs g') ⟨l,_,er,hc',hd'⟩ hvr
 done:=fun {c i ob s ρ H X m Q E} p S hok hv k=>by
  obtain ⟨l,as,er,hc,hd⟩:=p
  have e1:H[a]? = some (.tuple vs):=wD (sI hok)
  obtain ⟨r,er',o1⟩:=S.sim.cont _ _ e1
  rw [er] at er'
  cases er'
  obtain ⟨g0,_⟩:=S.behind
  cases o1 with
  | @tuple _ rvs n g vr ll =>
  have hlen:=vr.length
  have:vs.length ≤ i:=List.getElem?_eq_none_iff.mp hv
  refine wpAny_pyNext_tuple_end hh ⟨ob,g0,hc,hd⟩ ⟨_,g,rfl,_,rfl⟩ (by simp; exact lin [_,_,_] .x .y [(.x,.z),(.z,.y)] rfl (Nat.le_of_eq hlen) this) fun h' he=>k h' s.toks (S.dropBut he)
 grow:=fun ⟨l,as,er,r,q⟩ g=>⟨l,as,g _ _ er,r,q⟩
 self:=fun ⟨l,as,er,hc,hd⟩ e k=>wpAny_pyIter_tupleiter ⟨_,e,hc,hd⟩ k
 lot:=fun ⟨l,as,er,hc,hd⟩ e k=>pA e hc hd (by decide) k
inductive aUa (a n:Nat) (i:Nat) (ob:Obj) (ρ:Rho):Prop where
 | mk (l as):ρ[a]? = some (l,as)→i ≤ n→ob.cls = .type "list_reverseiterator"→ob.data = .fields #[.ref l,rawInt ((n:Int) - 1 - i)]→aUa a n i ob ρ
theorem cTa (hh:A.handled = none) {I:Addr} {a:Nat} {vs:List V}:Itr D A I ⟨vs.reverse,.list a vs⟩ (aUa a vs.length) where
 next:=fun {c i ob s ρ H X m v Q E} p S hok hv k=>by
  obtain ⟨l,as,er,hi,hc,hd⟩:=p
  have e1:H[a]? = some (.list vs):=kY (sI hok)
  obtain ⟨r,er',o1⟩:=S.sim.cont _ _ e1
  rw [er] at er'
  cases er'
  obtain ⟨g0,_⟩:=S.behind
  cases o1 with
  | @list _ rvs n g vr ll =>
  have hlt:i < vs.length:=by have:=(List.getElem?_eq_some_iff.mp hv).1; simpa using this
  have hv':vs[vs.length - 1 - i]? = some v:=by rw [← hv,List.getElem?_reverse hlt]
  obtain ⟨rv,eg,hvr⟩:=vr.get hv'
  have ei:((vs.length:Int) - 1 - (i:Int)) = ((vs.length - 1 - i:Nat):Int):=zM_ hlt
  rw [ei] at hd
  refine wpAny_pyNext_rev_item ⟨ob,g0,hc,hd⟩ ⟨_,g,rfl,_,rfl⟩ (toA eg) fun h' hit hs=>?_
  obtain ⟨ob',g',hc',hd'⟩:=hit
  exact k h' s.toks ob' rv (S.turnX hs g') ⟨l,_,er,hlt,hc',by rw [hd',show (((vs.length - 1 - i:Nat):Int) - 1) = (vs.length:Int) - 1 - ((i + 1:Nat):Int) by rw [← ei]; exact zR_]⟩ hvr
 done:=fun {c i ob s ρ H X m Q E} p S hok hv k=>by
  obtain ⟨l,as,er,hi,hc,hd⟩:=p
  obtain ⟨g0,_⟩:=S.behind
  have:vs.length ≤ i:=by have:=List.getElem?_eq_none_iff.mp hv; simpa using this
  have ei:((vs.length:Int) - 1 - (i:Int)) = -1:=zN_ hi this
  rw [ei] at hd
  refine wpAny_pyNext_rev_end hh ⟨ob,g0,hc,hd⟩ fun h' he=>k h' s.toks (S.dropBut he)
 grow:=fun ⟨l,as,er,r,q,u⟩ g=>⟨l,as,g _ _ er,r,q,u⟩
 self:=fun ⟨l,as,er,hi,hc,hd⟩ e k=>wpAny_pyIter_revIter ⟨_,e,hc,hd⟩ k
 lot:=fun ⟨l,as,er,hi,hc,hd⟩ e k=>pA e hc hd (by decide) k
noncomputable def pZa (n:Int) (i:Nat) (ob:Obj) (_ρ:Rho):Prop:=(i:Int) ≤ max n 0∧ob = { cls:=.type "range_iterator",dict:=none,data:=.fields #[rawInt i,rawInt (max n 0 - i),rawInt 1],slots:=#[] }
theorem jHa (hh:A.handled = none) {I:Addr} {n:Int}:Itr D A I ⟨(List.range n.toNat).map fun i=>.int (i:Nat),.no⟩ (pZa n) where
 next:=fun {c i ob s ρ H X m v Q E} p S hok hv k=>by
  obtain ⟨hi,rfl⟩:=p
  obtain ⟨g0,_⟩:=S.behind
  rw [List.getElem?_map] at hv
  obtain ⟨j,hj,rfl⟩:=Option.map_eq_some_iff.mp hv
  obtain ⟨hlt,hj⟩:=List.getElem?_eq_some_iff.mp hj
  rw [List.getElem_range] at hj
  subst hj
  rw [List.length_range] at hlt
  refine wpAny_pyNext_range_item g0 (zP_ hlt) fun h' hit hs=>?_
  refine k h' _ _ _ (S.turnX hs hit) ⟨zO_ hlt,?_⟩ (.int _ _)
  congr 3
  simp only [rawInt]
  congr 3 <;> exact zR_
 done:=fun {c i ob s ρ H X m Q E} p S hok hv k=>by
  obtain ⟨hi,rfl⟩:=p
  obtain ⟨g0,_⟩:=S.behind
  have:n.toNat ≤ i:=by have:=List.getElem?_eq_none_iff.mp hv; simpa using this
  refine wpAny_pyNext_range_end hh g0 (zQ_ this) fun h' he=>k h' s.toks (S.dropBut he)
 grow:=fun p _=>p
 self:=fun ⟨hi,e0⟩ e k=>by subst e0; exact wpAny_pyIter_rangeiter e k
 lot:=fun ⟨hi,e0⟩ e k=>by subst e0; exact pA e rfl rfl (by decide) k
inductive fMa (x:PySem.Str) (i:Nat) (ob:Obj) (_ρ:Rho):Prop where
 | mk (t):ob.cls = .type (strIterType x)→ob.data = .fields #[.str x t,.int i 0]→fMa x i ob _ρ
theorem lGa (hh:A.handled = none) {I:Addr} {x:PySem.Str}:Itr D A I ⟨x.cps.toList.map fun c=>.str ⟨#[c]⟩,.no⟩ (fMa x) where
 next:=fun {c i ob s ρ H X m v Q E} p S hok hv k=>by
  obtain ⟨t,hc,hd⟩:=p
  obtain ⟨g0,_⟩:=S.behind
  rw [List.getElem?_map] at hv
  obtain ⟨ch,hj,rfl⟩:=Option.map_eq_some_iff.mp hv
  rw [Array.getElem?_toList] at hj
  cases ha:x.cps.all (· < 128) with
  | true =>
   have ht:strIterType x = "str_ascii_iterator":=by simp [strIterType,ha]
   rw [ht] at hc
   refine wpAny_pyNext_ascii_item ⟨ob,g0,hc,hd⟩ hj fun h' hit hs=>?_
   obtain ⟨ob',g',hc',hd'⟩:=hit
   exact k h' _ _ _ (S.turnX hs g') ⟨t,by rw [ht]; exact hc',hd'⟩ (.str _ _)
  | false =>
   have ht:strIterType x = "str_iterator":=by simp [strIterType,ha]
   rw [ht] at hc
   refine wpAny_pyNext_wide_item ⟨ob,g0,hc,hd⟩ hj fun h' hit hs=>?_
   obtain ⟨ob',g',hc',hd'⟩:=hit
   exact k h' _ _ _ (S.turnX hs g') ⟨t,by rw [ht]; exact hc',hd'⟩ (.str _ _)
 done:=fun {c i ob s ρ H X m Q E} p S hok hv k=>by
  obtain ⟨t,hc,hd⟩:=p
  obtain ⟨g0,_⟩:=S.behind
  have hj:x.cps[i]? = none:=by
   rw [List.getElem?_map,Option.map_eq_none_iff,Array.getElem?_toList] at hv
   exact hv
  cases ha:x.cps.all (· < 128) with
  | true =>
   have ht:strIterType x = "str_ascii_iterator":=by simp [strIterType,ha]
   rw [ht] at hc
   exact wpAny_pyNext_ascii_end hh ⟨ob,g0,hc,hd⟩ hj fun h' he=>k h' s.toks (S.dropBut he)
  | false =>
   have ht:strIterType x = "str_iterator":=by simp [strIterType,ha]
   rw [ht] at hc
   exact wpAny_pyNext_wide_end hh ⟨ob,g0,hc,hd⟩ hj fun h' he=>k h' s.toks (S.dropBut he)
 grow:=fun ⟨t,a,b⟩ _=>⟨t,a,b⟩
 self:=fun ⟨t,hc,hd⟩ e k=>by
  rename_i x' _ _ _ _ _ _
  cases ha:x.cps.all (· < 128) with
  | true =>
   have ht:strIterType x = "str_ascii_iterator":=by simp [strIterType,ha]
   rw [ht] at hc
   exact wpAny_pyIter_striter_ascii ⟨_,e,hc,hd⟩ k
  | false =>
   have ht:strIterType x = "str_iterator":=by simp [strIterType,ha]
   rw [ht] at hc
   exact wpAny_pyIter_striter_wide ⟨_,e,hc,hd⟩ k
 lot:=fun ⟨t,hc,hd⟩ e k=>pA e hc hd (by unfold strIterType; split <;> decide) k
theorem kAa {prog:Program} {w:World} {elt target iter:Expr} {ifs:List Expr} {scope:Scope} {pos:Pos} {it acc:Value} {env:PySem.Env} {R:Result→Shared→Prop} (J:Nat→Shared→Prop)
  (turn:∀ n s,J n s→wpAny (model prog w) A (pyNext it) (fun r s₁=>match r with
   | none=>R (.ok .next) s₁
   | some v=>wpAny (model prog w) A (letOwnedTupleGo target it v) (fun _ s₁'=>wpAny (model prog w) A (assign target env v) (fun _ s₂ =>
     wpAny (model prog w) A (forIn ifs true fun c r=>if r = true then do let ok ← PySem.isTrue c env (eval c env); pure (ForInStep.yield ok) else pure (ForInStep.yield r)) (fun ok s₃ =>
      if ok = true then wpAny (model prog w) A (eval elt env) (fun x s₄ =>
       wpAny (model prog w) A (call (.builtin "list.append") [acc,x]) (fun _ s₅=>∃ m,m < n∧J m s₅) (notedBy (model prog w) A env fun e s'=>R (.error e) s') s₄) (notedBy (model prog w) A env fun e s'=>R (.error e) s') s₃
      else ∃ m,m < n∧J m s₃) (notedBy (model prog w) A env fun e s'=>R (.error e) s') s₂) (notedBy (model prog w) A env fun e s'=>R (.error e) s') s₁') (notedBy (model prog w) A env fun e s'=>R (.error e) s') s₁) (notedBy (model prog w) A env fun e s'=>R (.error e) s') s)
  (n:Nat) (hJ:J n s):codeAny (model prog w) A (.compLoop (.ListComp elt [⟨target,iter,ifs,0⟩] scope pos) 0 it acc env) R s:=by
 refine codeAny_loop rfl J (fun n s hI=>?_) n hJ
 show wpAny _ A ((compTurn (.ListComp elt [⟨target,iter,ifs,0⟩] scope pos) 0 it acc env).onRaise (fun x=>do noteFrame x env; theTreesLotGoes x)) _ _ s
 refine wpAny_noted ?_
 rw [compTurn_list]
 refine wpAny_bind (wpAny_standAt (wpAny_bind (wpAny_mono (turn n s hI) (fun r s₁ h₁=>?_) fun _ _ h'=>h')))
 cases r with
 | none=>exact wpAny_pure h₁
 | some v =>
  refine wpAny_bind (wpAny_mono h₁ (fun _ s₁' h₁'=>?_) fun _ _ h'=>h')
  refine wpAny_bind (wpAny_mono h₁' (fun _ s₂ h₂=>wpAny_bind (wpAny_mono h₂ (fun ok s₃ h₃=>?_) fun _ _ h'=>h')) fun _ _ h'=>h')
  cases ok with
  | false=>exact wpAny_pure ⟨rfl,h₃⟩
  | true =>
   exact wpAny_bind (wpAny_bind (wpAny_mono h₃ (fun x s₄ h₄=>wpAny_bind (wpAny_mono h₄ (fun _ s₅ h₅=>wpAny_pure (wpAny_pure ⟨rfl,h₅⟩)) fun _ _ h'=>h')) fun _ _ h'=>h'))
end
end Mine
end
section
open PySem PySem.W PyProof.Rows PySem.Calls
namespace Mine
noncomputable def oR (m:PySem.Str→Option Value):List PySem.Str→List Value→PySem.Str→Option Value
 | x :: xs,rv :: rvs=>oR (fun y=>if y = x then some rv else m y) xs rvs
 | _,_=>m
theorem bJa:∀ (xs:List PySem.Str) (rvs:List Value) (m:PySem.Str→Option Value) {y:PySem.Str},y ∉ xs→oR m xs rvs y = m y
 | [],_,_,_,_=>rfl
 | _ :: _,[],_,_,_=>rfl
 | x :: xs,rv :: rvs,m,y,h=>by
  refine (bJa xs rvs _ (fun q=>h (.tail _ q))).trans ?_
  exact if_neg (fun q:y = x=>h (by rw [q]; exact .head _))
theorem bEa {vs:List V} {env env1:Mine.Env} (h:jA [] vs env = some env1):vs = []∧env1 = env:=by
 obtain ⟨h1,h2⟩:=bD h
 clear h; cases vs with
 | nil=>cases h2; exact ⟨rfl,rfl⟩
 | cons _ _=>first | exact nos h1 | exact nof h1 | cases h1
theorem yI {i:Nat} {is:List Nat} {vs:List V} {env env1:Mine.Env} (h:jA (i :: is) vs env = some env1):∃ v r,vs = v :: r∧jA is r (bB i v env) = some env1:=by
 cases vs with
 | nil=>first | exact nos h | exact nof h | cases h
 | cons v r=>exact ⟨v,r,rfl,h⟩
theorem qQ:∀ {is:List Nat} {vs:List V} {env env1:Mine.Env},jA is vs env = some env1→is.length = vs.length∧env1.length = env.length∧∀ {j:Nat},j ∉ is→env1[j]? = env[j]?
 | [],vs,env,env1,h=>by obtain ⟨rfl,rfl⟩:=bEa h; exact ⟨rfl,rfl,fun _=>rfl⟩
 | i :: is,vs,env,env1,h=>by
  refine cps fun G_ g_=>?_
  obtain ⟨v,r,rfl,h'⟩:=yI h
  obtain ⟨h0,h1,h2⟩:=qQ h'
  refine g_ ?_
  clear g_
  refine ⟨by simp [h0],h1.trans (by unfold bB; rw [List.length_set]),fun {j} hj=>?_⟩
  rw [h2 (fun q=>hj (.tail _ q))]
  unfold bB
  exact List.getElem?_set_ne (fun q:i = j=>hj (by rw [← q]; exact .head _))
theorem zK {env:Mine.Env} {i j:Nat} {v u:V} (h:(bB i v env)[j]? = some (some u)):(j = i∧u = v) ∨ (j ≠ i∧env[j]? = some (some u)):=by
 unfold bB at h
 by_cases e:j = i
 ·subst e
  have hlt:j < env.length:=by have:=(List.getElem?_eq_some_iff.mp h).1; rwa [List.length_set] at this
  rw [List.getElem?_set_self hlt] at h
  clear hlt; cases h
  exact .inl ⟨rfl,rfl⟩
 ·rw [List.getElem?_set_ne (Ne.symm e)] at h
  exact .inr ⟨e,h⟩
theorem gBa {ρ:Rho}:∀ {xs:List PySem.Str} {is:List Nat} {vs:List V} {rvs:List Value} {env env1:Mine.Env} {m:PySem.Str→Option Value},xs.Nodup→is.Nodup→jA is vs env = some env1→VRs ρ vs rvs→xs.length = is.length →
  ∀ {x:PySem.Str} {i:Nat},(x,i) ∈ xs.zip is→∀ {v:V},env1[i]? = some (some v)→∃ rv,oR m xs rvs x = some rv∧VR ρ v rv
 | [],_,_,_,_,_,_,_,_,_,_,_,_,_,hm,_,_=>by cases hm
 | _ :: _,[],_,_,_,_,_,_,_,_,_,hl,_,_,_,_,_=>by cases hl
 | x :: xs,i :: is,vs,rvs,env,env1,m,nx,ni,h,R,hl,y,j,hm,u,hu=>by
  refine cps fun G_ g_=>?_
  obtain ⟨v,r,rfl,h'⟩:=yI h
  refine g_ ?_
  clear g_
  clear h; cases R with
  | cons hv hvs =>
  rw [List.nodup_cons] at nx ni
  rw [List.zip_cons_cons] at hm
  rcases List.mem_cons.mp hm with q | hm
  ·first | exact nos q | exact nof q | cases q
   rw [(qQ h').2.2 ni.1] at hu
   rcases zK hu with ⟨_,rfl⟩ | ⟨q,_⟩
   ·exact ⟨_,(bJa xs _ _ nx.1).trans (if_pos rfl),hv⟩
   ·exact absurd rfl q
  ·exact gBa nx.2 ni.2 h' hvs (Nat.succ.inj hl) hm hu
theorem wM {e:Expr} {es:List Expr} {xs:List PySem.Str} (h:namesOf (e :: es) = some xs):∃ x p r,e = .Name x p∧xs = x :: r∧namesOf es = some r:=by
 obtain ⟨x,ex,h1⟩:=bind_eq (show (nameOf e).bind _ = some xs from h)
 clear h; obtain ⟨r,er,rfl⟩:=map_eq h1
 clear h1; obtain ⟨p,rfl⟩:=val_eq ex
 exact ⟨_,_,_,rfl,rfl,er⟩
theorem aJa:∀ {es:List Expr} {xs:List PySem.Str} (h:namesOf es = some xs) (env:PySem.Env),(assignEach es env).length = xs.length∧(assignEach es env).findIdx? (·.1) = none
 | [],xs,h,env=>by cases h; exact ⟨rfl,rfl⟩
 | e :: es,xs,h,env=>by
  obtain ⟨x,p,r,rfl,rfl,h'⟩:=wM h
  have ih:=aJa h' env
  refine ⟨by show (_ :: assignEach es env).length = _; simp [ih.1],?_⟩
  show List.findIdx? _ ((false,_) :: assignEach es env) = none
  rw [List.findIdx?_cons,ih.2]
  rfl
theorem NsO.of {h:Real} {a:Addr} {o:Obj} {mC:PySem.Str→Option Value} (n:h.Ns a mC) (e:h.get? a = some o):NsO o mC:=by
 obtain ⟨o',es,ep,e1,e2,r⟩:=n
 rw [e] at e1
 clear e; cases e1
 exact fun h2 a2 e3=>⟨o,es,ep,e3,e2,r⟩
theorem lookup_at {α:Type} {x:PySem.Str}:∀ {l:List (PySem.Str × α)},l.lookup x = at_ x l
 | []=>rfl
 | (y,a) :: r=>by
  rw [List.lookup_cons]
  rw [bCa]
  by_cases e:x = y
  ·subst e; rw [beq_self_eq_true,if_pos rfl]
  ·rw [show (x == y) = false by simpa using e,if_neg e]
   exact lookup_at
noncomputable def iT (penv:PySem.Env) (cs:List (PySem.Str × Addr)) (y:PySem.Str × NameKind):List (PySem.Str × Addr):=if y.2 == .free then (y.1,(penv.cells.lookup y.1).getD 0) :: cs else cs
theorem fEa (penv:PySem.Env):∀ (names:List (PySem.Str × NameKind)) (cs:List (PySem.Str × Addr)),(∀ y ∈ names,y.2 = .free→∃ a,penv.cells.lookup y.1 = some a) →
  (forIn (m:=Sem) names cs fun (x:PySem.Str × NameKind) (cs:List (PySem.Str × Addr))=>if (x.2 == .free) = true then do let a ← cellOf penv x.1; pure (ForInStep.yield ((x.1,a) :: cs)) else pure (ForInStep.yield cs)) = pure (names.foldl (iT penv) cs)
 | [],cs,_=>rfl
 | y :: r,cs,h=>by
  have ih:=fEa penv r (iT penv cs y) fun z hz=>h z (.tail _ hz)
  rw [List.forIn_cons,List.foldl_cons,← ih]
  unfold iT
  clear ih; by_cases hy:(y.2 == NameKind.free) = true
  ·obtain ⟨a,ea⟩:=h y (.head _) (by simpa using hy)
   have ec:cellOf penv y.1 = pure a:=by unfold cellOf; rw [ea]
   rw [if_pos hy,if_pos hy,ec,ea]
   rfl
  ·rw [if_neg hy,if_neg hy]
   rfl
theorem pGa {penv:PySem.Env} {sc:Scope} (h:∀ y ∈ sc.names,y.2 = .free→∃ a,penv.cells.lookup y.1 = some a):closureFor sc penv = pure (sc.names.foldl (iT penv) []):=by
 have q:=fEa penv sc.names [] h
 unfold closureFor
 have e:(forIn (m:=Sem) sc.names ([]:List (PySem.Str × Addr)) fun x r=>match x with
   | (name,kind)=>if (kind == NameKind.free) = true then do let __do_lift ← cellOf penv name; pure (ForInStep.yield ((name,__do_lift) :: r)) else pure (ForInStep.yield r)) = pure (sc.names.foldl (iT penv) []):=q
 first
  | exact (by simpa using e)
  | (rw [show (do let cs ← _; pure cs:Sem _) = _ from bind_pure _]; exact e)
theorem hEa (penv:PySem.Env):∀ (names:List (PySem.Str × NameKind)) (cs:List (PySem.Str × Addr)),(∀ e ∈ cs,e.2 = (penv.cells.lookup e.1).getD 0)→∀ e ∈ names.foldl (iT penv) cs,e.2 = (penv.cells.lookup e.1).getD 0
 | [],_,h=>h
 | y :: r,cs,h=>by
  rw [List.foldl_cons]
  refine hEa penv r _ ?_
  unfold iT
  split
  ·intro e he
   rcases List.mem_cons.mp he with rfl | he
   ·rfl
   ·exact h e he
  ·exact h
theorem iQa (penv:PySem.Env) {x:PySem.Str}:∀ (names:List (PySem.Str × NameKind)) (cs:List (PySem.Str × Addr)),((x,NameKind.free) ∈ names ∨ x ∈ cs.map (·.1))→x ∈ (names.foldl (iT penv) cs).map (·.1)
 | [],_,h=>by
  rcases h with h | h
  ·first | exact nos h | exact nof h | cases h
  ·exact h
 | y :: r,cs,h=>by
  rw [List.foldl_cons]
  refine iQa penv r _ ?_
  rcases h with h | h
  ·rcases List.mem_cons.mp h with rfl | h
   ·right; unfold iT; simp
   ·exact .inl h
  ·right
   unfold iT
   split
   ·exact List.mem_cons_of_mem _ h
   ·exact h
theorem hJa {f:PySem.Str→Addr} {x:PySem.Str}:∀ {l:List (PySem.Str × Addr)},(∀ e ∈ l,e.2 = f e.1)→x ∈ l.map (·.1)→l.lookup x = some (f x)
 | [],_,h=>by cases h
 | (y,a) :: r,hf,h=>by
  rw [List.lookup_cons]
  by_cases e:x = y
  ·subst e
   rw [beq_self_eq_true]
   exact congrArg some (hf _ (.head _))
  ·rw [show (x == y) = false by simpa using e]
   refine hJa (fun z hz=>hf z (.tail _ hz)) ?_
   clear hf; rcases List.mem_cons.mp h with q | q
   ·exact absurd q e
   ·exact q
theorem rZ {sc:Scope} {penv:PySem.Env} {x:PySem.Str}:(relabel sc penv).names.lookup x = (sc.names.lookup x).map fun k=>if (k == .free && penv.scope.kind == .function && penv.kindOf x == some .cell) = true then .cell else k:=by
 unfold relabel
 show List.lookup x (sc.names.map _) = _
 induction sc.names with
 | nil=>rfl
 | cons y r ih =>
  obtain ⟨y,k⟩:=y
  rw [List.map_cons,List.lookup_cons (a:=x) (as:=r)]
  by_cases e:x = y
  ·subst e
   rw [beq_self_eq_true]
   by_cases hq:(k == NameKind.free && penv.scope.kind == .function && penv.kindOf x == some NameKind.cell) = true
   ·dsimp only
    rw [if_pos hq,List.lookup_cons,beq_self_eq_true]
    exact congrArg some (if_pos hq).symm
   ·dsimp only
    rw [if_neg hq,List.lookup_cons,beq_self_eq_true]
    exact congrArg some (if_neg hq).symm
  ·have e':(x == y) = false:=by simpa using e
   rw [e',← ih]
   dsimp only
   clear e ih; split <;> rw [List.lookup_cons,e']
structure mF (names:List (PySem.Str × NameKind)) (sc:Scope) (xs:List PySem.Str):Prop where
 kind:sc.kind = .function
 kinds:∀ y ∈ sc.names,y.2 = .local ∨ y.2 = .globalImplicit ∨ (y.2 = .free∧at_ y.1 names = some .cell)
 look:∀ y ∈ sc.names,sc.names.lookup y.1 = some y.2
 loc:∀ x ∈ xs,sc.names.lookup x = some .local
 nd:∀ y ∈ sc.names,(y.1 == ("__debug__":PySem.Str)) = false
 nodup:xs.Nodup
theorem pHa {names:List (PySem.Str × NameKind)} {sc:Scope} {xs:List PySem.Str} (h:sE names sc xs = true):mF names sc xs:=by
 unfold sE at h
 simp only [Bool.and_eq_true,List.all_eq_true,Bool.or_eq_true,beq_iff_eq,bne_iff_ne,decide_eq_true_eq] at h
 obtain ⟨⟨⟨⟨⟨h1,h2⟩,h3⟩,h4⟩,h5⟩,h6⟩:=h
 refine ⟨h1,fun y hy=>?_,fun y hy=>by rw [lookup_at]; exact iI (h3 y hy),fun x hx=>by rw [lookup_at]; exact iI (h4 x hx),fun y hy=>by simpa using h5 y hy,h6⟩
 clear h1 h3 h4 h5 h6; rcases h2 y hy with (h | h) | h
 ·exact .inl h
 ·exact .inr (.inl h)
 ·exact .inr (.inr ⟨h.1,iI h.2⟩)
end Mine
end
section
open PySem PySem.W PyProof.Rows PySem.Calls
namespace Mine
section
variable {D:Wd} {c:Act D} {A:Around} {m m':PySem.Str→Option Value} {h h':Real} {s:Shared} {ρ ρ':Rho} {H H' H1:Heap} {X X':List (Addr × Obj)} {E:Value→Shared→Prop} {penv:PySem.Env} {env env1:Mine.Env}
 {names:List (PySem.Str × NameKind)} {sc:Scope} {xs:List PySem.Str} {is:List Nat} {u:Bool} {tgt:Expr}
theorem bRa {C:Addr} {oC:Obj} {mC:PySem.Str→Option Value} (S:St c m s.heap ρ H ((C,oC) :: X)) (hn:NsO oC mC) (hloc:penv.locals = C) {x:PySem.Str} (hx:penv.kindOf x = some .local) (hk:penv.scope.kind = .function) {rv:Value} {Q:Unit→Shared→Prop}
  (k:∀ h' tk oC',St c m h' ρ H ((C,oC') :: X)→NsO oC' (fun y=>if y = x then some rv else mC y)→Q () { s with heap:=h',toks:=tk }):wpAny (model D.prog D.w) A (storeName penv x rv) Q E s:=by
 subst hloc
 refine wpAny_storeName_local hx (hn _ _ S.behind.1) (fun h' hn' hs=>?_) (by rw [hk]; rfl)
 obtain ⟨o',es,ep,e1,r⟩:=id hn'
 exact k h' _ o' (S.turnX hs e1) (NsO.of hn' e1)
theorem bGa {C:Addr}:∀ {es:List Expr} {xs:List PySem.Str} {rvs:List Value} {s:Shared} {oC:Obj} {mC:PySem.Str→Option Value} {Q:Unit→Shared→Prop},namesOf es = some xs→St c m s.heap ρ H ((C,oC) :: X)→NsO oC mC→penv.locals = C→(∀ x ∈ xs,penv.kindOf x = some .local)→penv.scope.kind = .function→xs.length = rvs.length →
  (∀ h' tk oC',St c m h' ρ H ((C,oC') :: X)→NsO oC' (oR mC xs rvs)→Q () { s with heap:=h',toks:=tk })→wpAny (model D.prog D.w) A (assignInOrder ((assignEach es penv).map (·.2)) rvs) Q E s
 | [],xs,rvs,s,oC,mC,Q,hN,S,hn,hloc,hx,hk,hl,k=>by
  cases hN
  cases rvs with
  | nil=>exact wpAny_pure (k _ s.toks _ S hn)
  | cons _ _=>first | exact nos hl | exact nof hl | cases hl
 | e :: es,xs,rvs,s,oC,mC,Q,hN,S,hn,hloc,hx,hk,hl,k=>by
  refine cps fun G_ g_=>?_
  obtain ⟨x,p,r,rfl,rfl,hN'⟩:=wM hN
  refine g_ ?_
  clear g_
  clear hN; cases rvs with
  | nil=>first | exact nos hl | exact nof hl | cases hl
  | cons rv rvs =>
   refine assignInOrder_cons (wpAny_assign_Name ?_)
   refine bRa S hn hloc (hx _ (.head _)) hk fun h1 tk1 oC1 S1 hn1=>?_
   exact bGa (s:={ s with heap:=h1,toks:=tk1 }) hN' S1 hn1 hloc (fun y hy=>hx y (.tail _ hy)) hk (Nat.succ.inj hl) fun h2 tk2 oC2 S2 hn2=>k h2 tk2 oC2 S2 hn2
theorem St.tup (S:St c m h ρ H X) {v:V} {rv:Value} {vs:List V} (hv:VR ρ v rv) (e:oG H v = some vs):∃ b rvs n,rv = .ref b∧h.get? b = some (hVa rvs n)∧VRs ρ vs rvs:=by
 refine cps fun G_ g_=>?_
 obtain ⟨a,rfl,e'⟩:=cYa e
 clear e; obtain ⟨b,as,rfl,_,o⟩:=S.look hv e'
 refine g_ ?_
 clear g_
 clear hv e' S; cases o with
 | tuple g r l=>exact ⟨b,_,_,rfl,g,r⟩
theorem bNa (hh:A.handled = none) (tg:Tgt u xs tgt) (ok:mF names sc xs) (hl3:xs.length = is.length) {C:Addr} {oC:Obj} {mC:PySem.Str→Option Value} (S:St c m s.heap ρ H ((C,oC) :: X)) (hn:NsO oC mC) {cl:List (PySem.Str × Addr)} {v:V} {rv:Value} (hv:VR ρ v rv)
  (e:dX is u v env H = some env1) {Q:Unit→Shared→Prop}
  (k:∀ h' tk oC' vs rvs,St c m h' ρ H ((C,oC') :: X)→NsO oC' (oR mC xs rvs)→jA is vs env = some env1→VRs ρ vs rvs→Q () { s with heap:=h',toks:=tk }) :
  wpAny (model D.prog D.w) A (assign tgt (compEnvC sc cl C penv) rv) Q E s:=by
 have hloc:∀ x ∈ xs,(compEnvC sc cl C penv).kindOf x = some .local:=fun x hx=>by
  show (relabel sc penv).names.lookup x = _
  rw [rZ,ok.loc x hx]
  rfl
 rcases tg with ⟨rfl,x,px,rfl,rfl⟩ | ⟨rfl,es,kk,px,rfl,hN⟩
 ·refine wpAny_assign_Name (bRa S hn rfl (hloc x (.head _)) ok.kind fun h1 tk1 oC1 S1 hn1=>?_)
  exact k h1 tk1 oC1 [v] [rv] S1 hn1 e (.cons hv .nil)
 ·obtain ⟨vs,e1,e2⟩:=bind_eq e
  refine cps fun G_ g_=>?_
  clear e; obtain ⟨b,rvs,n,rfl,g,vr⟩:=S.tup hv e1
  have hlen:=vr.length
  have hl2:=(qQ e2).1
  obtain ⟨n1,n2⟩:=aJa hN (compEnvC sc cl C penv)
  refine g_ ?_
  clear g_
  refine wpAny_assign_Tuple hh (items:=rvs.toArray) ⟨_,g,rfl,_,rfl⟩ (by rw [n1,List.size_toArray]; exact Nat.le_antisymm (lin [_,_,_,_] .x .y [(.x,.z),(.z,.w),(.w,.y)] rfl (Nat.le_of_eq hl3) (Nat.le_of_eq hl2) (Nat.le_of_eq hlen.symm)) (lin [_,_,_,_] .x .y [(.x,.z),(.z,.w),(.w,.y)] rfl (Nat.le_of_eq hlen) (Nat.le_of_eq hl2.symm) (Nat.le_of_eq hl3.symm))) n2 fun h' he=>?_
  refine bGa (s:={ s with heap:=h' }) hN (S.kept he) hn rfl hloc ok.kind (show xs.length = rvs.length by exact Nat.le_antisymm (lin [_,_,_,_] .x .y [(.x,.z),(.z,.w),(.w,.y)] rfl (Nat.le_of_eq hl3) (Nat.le_of_eq hl2) (Nat.le_of_eq hlen.symm)) (lin [_,_,_,_] .x .y [(.x,.z),(.z,.w),(.w,.y)] rfl (Nat.le_of_eq hlen) (Nat.le_of_eq hl2.symm) (Nat.le_of_eq hl3.symm))) fun h1 tk1 oC1 S1 hn1=>?_
  exact k h1 tk1 oC1 vs rvs S1 hn1 e2 vr
end
variable {D:Wd} {n:Nat} {Γ:Sc} {cf:aU} {z:Z D n Γ} {σ:Sg} {H H1 H2 H':Heap} {E:Value→Shared→Prop} {sc:Scope} {xs:List PySem.Str} {is:List Nat} {u:Bool} {tgt:Expr}
noncomputable abbrev jD (Γ:Sc) (sc:Scope) (xs:List PySem.Str) (is:List Nat):Sc:=⟨sc.names,Γ.slots,Γ.n,some (xs.zip is)⟩
noncomputable abbrev cl (sc:Scope) (penv:PySem.Env):List (PySem.Str × Addr):=sc.names.foldl (iT penv) []
theorem vYa (ok:mF Γ.names sc xs) {x:PySem.Str} {k:NameKind} (h:(jD Γ sc xs is).kind x = some k):(x,k) ∈ sc.names:=fQ h
theorem wCa {c:Act D} {penv:PySem.Env} (pk:PK c Γ penv) (ok:mF Γ.names sc xs) (C:Addr):PK c (jD Γ sc xs is) (compEnvC sc (cl sc penv) C penv) where
 glob:=pk.glob
 bi:=pk.bi
 kind:=ok.kind
 gl:=fun x hm=>by
  show (relabel sc penv).names.lookup x = _
  rw [rZ,ok.look _ (fQ (iI hm))]
  rfl
 nd:=fun x k hm=>ok.nd _ (fQ hm)
 sl:=pk.sl
 sn:=pk.sn
 lk:=fun x hm=>by
  show (relabel sc penv).names.lookup x = _
  rw [rZ,ok.look _ (fQ hm)]
  rfl
 ck:=fun h=>by cases h
 lo:=fun h=>by cases h
noncomputable abbrev Z.on (z:Z D n Γ) (l:List (Addr × Obj)):Z D n Γ:={ z with X:=l ++ z.X }
noncomputable abbrev Z.inn (z:Z D n Γ) (ok:mF Γ.names sc xs) (is:List Nat) (l:List (Addr × Obj)) (C:Addr) (oC:Obj) (env1:Mine.Env):Z D n (jD Γ sc xs is) :=
 { c:=z.c,A:=z.A,s₀:=z.s₀,penv:=compEnvC sc (cl sc z.penv) C z.penv,ar:=z.ar,pk:=wCa z.pk ok C,m:=z.m,X:=l ++ z.X,C:=(C,oC) :: z.C,env:=env1 }
theorem Ok.again (o:Ok z σ H) {s':Shared} {ρ':Rho} (S:St z.c z.m s'.heap ρ' H' z.X) (r:Rst z.s₀ s') (g:aQ σ.ρ ρ'):Ok z ⟨s',ρ'⟩ H' :=
 ⟨S,r,o.sub,fun x i hl v hv=>let ⟨rv,r,q⟩:=o.rd x i hl v hv; ⟨rv,r,q.grow g⟩,o.ln⟩
theorem iYa (hin:Γ.inner = none) (ok:mF Γ.names sc xs) (hi:xs.length = is.length∧is.Nodup∧∀ i ∈ is,Γ.n ≤ i) {l:List (Addr × Obj)} (o:Ok (z.on l) σ H) {C:Addr} {oC:Obj} (hC:(C,oC) ∈ l) {mC:PySem.Str→Option Value} {vs:List V} {rvs:List Value} {env1:Mine.Env}
  (hn:NsO oC (oR mC xs rvs)) (he:jA is vs z.env = some env1) (hv:VRs σ.ρ vs rvs):Ok (z.inn ok is l C oC env1) σ H where
 st:=o.st
 rst:=o.rst
 sub:=fun p hp=>by
  rcases List.mem_cons.mp hp with rfl | hp
  ·exact List.mem_append_left _ hC
  ·exact o.sub p hp
 ln:=fun h=>by cases h
 rd:=fun x i hl v hv'=>by
  have hlo:(jD Γ sc xs is).loc x = some i:=hl
  unfold Sc.loc at hlo
  clear hl hC; cases hk:(jD Γ sc xs is).kind x with
  | none=>rw [hk] at hlo; first | exact nos hlo | exact nof hlo | cases hlo
  | some k =>
   rw [hk] at hlo
   have hm:=vYa ok hk
   clear hk; rcases ok.kinds _ hm with rfl | rfl | ⟨rfl,hcell⟩
   ·obtain ⟨rv,e1,e2⟩:=gBa (m:=mC) ok.nodup hi.2.1 he hv hi.1 (fQ (show at_ x (xs.zip is) = some i from hlo)) hv'
    refine ⟨rv,.inn (o:=oC) ?_ (.head _) hn e1,e2⟩
    show (relabel sc z.penv).names.lookup x = _
    rw [rZ,ok.look _ hm]
    rfl
   ·first | exact nos hlo | exact nof hlo | cases hlo
   ·have hix:idx x Γ.slots = some i:=hlo
    have hno:i ∉ is:=fun q=>by
     have h1:=hi.2.2 i q
     have h2:=(List.getElem?_eq_some_iff.mp (jU hix)).1
     have h3:=z.pk.sl
     exact rB [_,_,_] [(.a .x (.n 1),.y),(.y,.z),(.z,.x)] rfl h2 h3 h1
    rw [(qQ he).2.2 hno] at hv'
    have hlo':Γ.loc x = some i:=by
     unfold Sc.loc
     rw [show Γ.kind x = some .cell from hcell,hin]
     exact hix
    obtain ⟨rv,r,q⟩:=o.rd x i hlo' v hv'
    obtain ⟨ck,_⟩:=z.pk.ck hin x hcell
    refine ⟨rv,?_,q⟩
    clear q hlo' hno hix hcell hlo hv' hv hn o hi hin; cases r with
    | loc _ e _=>rw [ck] at e; first | exact nos e | exact nof e | cases e
    | inn e _ _ _=>rw [ck] at e; first | exact nos e | exact nof e | cases e
    | @cell a oo e1 e2 e3 e4 =>
     refine .cell (a:=a) ?_ ?_ (.tail _ e3) e4
     ·show (relabel sc z.penv).names.lookup x = _
      rw [rZ,ok.look _ hm]
      show some (if (NameKind.free == NameKind.free && z.penv.scope.kind == .function && z.penv.kindOf x == some .cell) = true then NameKind.cell else NameKind.free) = _
      rw [z.pk.kind,e1]
      rfl
     ·show (cl sc z.penv).lookup x = some a
      rw [hJa (f:=fun y=>(z.penv.cells.lookup y).getD 0) (hEa z.penv _ _ (fun e he=>absurd he List.not_mem_nil)) (iQa z.penv _ _ (.inl hm)),e2]
      rfl
end Mine
end
section
open PySem PySem.W PyProof.Rows PySem.Calls
namespace Mine
variable {D:Wd} {n:Nat} {Γ:Sc} {cf:aU} {z:Z D n Γ} {σ:Sg} {H H1 H2 H':Heap} {E:Value→Shared→Prop} {sc:Scope} {xs:List PySem.Str} {is:List Nat} {u:Bool} {tgt:Expr}
theorem Ok.drop {p:Addr × Obj} {l:List (Addr × Obj)} (hs:∀ q ∈ z.C,q ∈ z.X) (o:Ok (z.on (p :: l)) σ H):Ok (z.on l) σ H:=⟨o.st.drop,o.rst,fun q hq=>List.mem_append_right _ (hs q hq),o.rd,o.ln⟩
structure CL (z:Z D n Γ) (ρ:Rho) (I C Da:Addr) (it:It) (P:Nat→Obj→Rho→Prop) (step:V→Heap→Option (Option V × Heap)) (vs:List V) (H':Heap) (i:Nat) (σ:Sg) (Hc:Heap) (ob oC:Obj) (mC:PySem.Str→Option Value) (racc:List Value) (nD:Nat) (acc rest:List V):Prop where
 ok:Ok (z.on [(I,ob),(C,oC),(Da,cL racc nD)]) σ Hc
 p:P i ob σ.ρ
 ns:NsO oC mC
 ac:VRs σ.ρ acc racc
 g:aQ ρ σ.ρ
 run:fY it step (it.items.drop i) Hc = some (rest,H')
 cat:acc ++ rest = vs
 le:i ≤ it.items.length
inductive CLk (z:Z D n Γ) (ρ:Rho) (I C Da:Addr) (it:It) (P:Nat→Obj→Rho→Prop) (step:V→Heap→Option (Option V × Heap)) (vs:List V) (H':Heap) (k:Nat) (s':Shared):Prop where
 | mk (i:Nat) (σ:Sg) (Hc:Heap) (ob oC:Obj) (mC:PySem.Str→Option Value) (racc:List Value) (nD:Nat) (acc rest:List V):s' = σ.s→CL z ρ I C Da it P step vs H' i σ Hc ob oC mC racc nD acc rest→k = it.items.length - i→CLk z ρ I C Da it P step vs H' k s'
set_option tactic.hygienic true in
theorem dDa {α:Type} {l:List α} {i:Nat} {v:α} {tl:List α} (h:l.drop i = v :: tl):i < l.length∧l[i]? = some v∧l.drop (i + 1) = tl:=by
 have hlt:i < l.length:=by
  false_or_by_contra
  rename_i q
  rw [List.drop_of_length_le (by exact lin [_,_] .x .y [(.x,.y)] rfl (Nat.le_of_not_lt q))] at h
  clear q; cases h
 refine ⟨hlt,?_,by rw [← List.drop_drop,h]; rfl⟩
 have:(l.drop i)[0]? = some v:=by rw [h]; rfl
 rwa [List.getElem?_drop,Nat.add_zero] at this
noncomputable abbrev pF (cf:aU) (env:Mine.Env) (is:List Nat) (u:Bool) (ts:ITs) (te:IE):V→Heap→Option (Option V × Heap):=jV (fun v H=>dX is u v env H) (fun env1 H=>dU cf env1 ts H) (fun env1 H=>aH cf env1 te H)
inductive wB (cf:aU) (env:Mine.Env) (is:List Nat) (u:Bool) (ts:ITs) (te:IE) (it:It) (i:Nat) (Hc:Heap) (rest:List V) (H':Heap):Prop where
 | skip (v:V) (env1:Mine.Env) (H2:Heap):i < it.items.length→it.items[i]? = some v→it.ok Hc = true→dX is u v env Hc = some env1→dU cf env1 ts Hc = some (false,H2)→fY it (pF cf env is u ts te) (it.items.drop (i + 1)) H2 = some (rest,H')→wB cf env is u ts te it i Hc rest H'
 | take (v x:V) (env1:Mine.Env) (Ht H2:Heap) (xs':List V):i < it.items.length→it.items[i]? = some v→it.ok Hc = true→dX is u v env Hc = some env1→dU cf env1 ts Hc = some (true,Ht)→aH cf env1 te Ht = some (x,H2)→fY it (pF cf env is u ts te) (it.items.drop (i + 1)) H2 = some (xs',H')→rest = x :: xs'→wB cf env is u ts te it i Hc rest H'
theorem pTa {env:Mine.Env} {ts:ITs} {te:IE} {it:It} {i:Nat} {Hc:Heap} {rest:List V} {v:V} {tl:List V} (hd:it.items.drop i = v :: tl) (e:fY it (pF cf env is u ts te) (it.items.drop i) Hc = some (rest,H')):wB cf env is u ts te it i Hc rest H':=by
 obtain ⟨hlt,hv,htl⟩:=dDa hd
 rw [hd] at e
 obtain ⟨hok,e⟩:=bD e
 obtain ⟨ox,H2,e1,e2⟩:=aW e
 obtain ⟨xs',H3,e3,e4⟩:=aW e2
 obtain ⟨env1,Hb,eb0,e5⟩:=aW e1
 clear e2 e1 e hd; obtain ⟨eb,rfl⟩:=iW eb0
 obtain ⟨b,Ht,et,e6⟩:=aW e5
 rw [← htl] at e3
 clear eb0 e e5 htl; cases e4
 cases b with
 | false=>cases e6; exact .skip v env1 H2 hlt hv hok eb et e3
 | true =>
  obtain ⟨x,H5,e7,e8⟩:=aW e6
  clear e6; cases e8
  exact .take v x env1 Ht H2 xs' hlt hv hok eb et e7 e3 rfl
theorem jBa (hin:Γ.inner = none) (hs:∀ q ∈ z.C,q ∈ z.X) (tg:Tgt u xs tgt) (ok:mF Γ.names sc xs) (hi:xs.length = is.length∧is.Nodup∧∀ i ∈ is,Γ.n ≤ i) {ifs:List Expr} {ts:ITs} {elt:Expr} {te:IE}
  (hT:STs D n cf (jD Γ sc xs is) ifs ts) (hE:SE D n cf (jD Γ sc xs is) elt te) {I C Da:Addr} {it:It} {P:Nat→Obj→Rho→Prop} (hI:Itr D z.A I it P) {iter:Expr} {pos:Pos} {R:Result→Shared→Prop} {vs:List V} {ρ:Rho} (hlen:vs.length ≤ 1000)
  (fin:∀ σ oC racc nD mC,Ok (z.on [(C,oC),(Da,cL racc nD)]) σ H'→NsO oC mC→VRs σ.ρ vs racc→aQ ρ σ.ρ→R (.ok .next) σ.s)
  {Hc:Heap} {ob oC:Obj} {mC:PySem.Str→Option Value} {racc:List Value} {nD:Nat} {acc rest:List V} (c0:CL z ρ I C Da it P (pF cf z.env is u ts te) vs H' 0 σ Hc ob oC mC racc nD acc rest) :
   codeAny (model D.prog D.w) z.A (.compLoop (.ListComp elt [⟨tgt,iter,ifs,0⟩] sc pos) 0 (.ref I) (.ref Da) (compEnvC sc (cl sc z.penv) C z.penv)) R σ.s:=by
 refine kAa (CLk z ρ I C Da it P (pF cf z.env is u ts te) vs H') ?_ it.items.length ⟨0,σ,Hc,ob,oC,mC,racc,nD,acc,rest,rfl,c0,rfl⟩
 clear c0
 rintro k s' ⟨i,σ,Hc,ob,oC,mC,racc,nD,acc,rest,rfl,⟨o,hP,hn,hacc,g1,hrun,hcat,hle⟩,rfl⟩
 cases hd:it.items.drop i with
 | nil =>
  rw [hd] at hrun
  obtain ⟨hok,e⟩:=bD hrun
  cases e
  refine hI.done hP o.st hok (List.getElem?_eq_none_iff.mpr (List.drop_eq_nil_iff.mp hd)) fun h2 tk2 S2=>?_
  rw [List.append_nil] at hcat
  subst hcat
  exact fin ⟨_,σ.ρ⟩ oC racc nD mC (((o.drop hs).to (h':=h2) (tk':=tk2) (ρ':=σ.ρ) S2 (aQ.refl _))) hn hacc g1
 | cons v tl =>
  have t:=pTa hd hrun
  clear hd hrun hle
  clear fin; cases t with
  | skip v env1 H2 hlt hv hok eb et e3 =>
   refine hI.next hP o.st hok hv fun h2 tk2 ob2 rv S2 hP2 hv2=>?_
   refine hI.lot (s:={ σ.s with heap:=h2,toks:=tk2 }) hP2 S2.behind.1 ?_
   refine bNa (s:={ σ.s with heap:=h2,toks:=tk2 }) z.ar.hd tg ok hi.1 (S2.perm (.swap (C,oC) (I,ob2) _)) hn hv2 eb fun h3 tk3 oC3 bvs brvs S3 hn3 hset hbv=>?_
   have o3:Ok (z.on [(I,ob2),(C,oC3),(Da,cL racc nD)]) ⟨{ σ.s with heap:=h3,toks:=tk3 },σ.ρ⟩ Hc :=
    ⟨S3.perm (.swap (I,ob2) (C,oC3) _),o.rst.to _ _,fun q hq=>List.mem_append_right _ (hs q hq),o.rd,o.ln⟩
   refine hT (z.inn ok is [(I,ob2),(C,oC3),(Da,cL racc nD)] C oC3 env1) _ Hc H2 false (iYa hin ok hi o3 (.tail _ (.head _)) hn3 hset hbv) et _ _ fun σ4 o4 g4=>?_
   exact ⟨_,Nat.sub_lt_sub_left hlt (Nat.lt_succ_self i),.mk (i + 1) σ4 _ ob2 oC3 _ racc nD acc rest rfl ⟨o3.again o4.st o4.rst g4,hI.grow hP2 g4,hn3,hacc.grow g4,g1.trans g4,e3,hcat,hlt⟩ rfl⟩
  | take v x env1 Ht H2 xs' hlt hv hok eb et ex e3 hr =>
   refine hI.next hP o.st hok hv fun h2 tk2 ob2 rv S2 hP2 hv2=>?_
   refine hI.lot (s:={ σ.s with heap:=h2,toks:=tk2 }) hP2 S2.behind.1 ?_
   refine bNa (s:={ σ.s with heap:=h2,toks:=tk2 }) z.ar.hd tg ok hi.1 (S2.perm (.swap (C,oC) (I,ob2) _)) hn hv2 eb fun h3 tk3 oC3 bvs brvs S3 hn3 hset hbv=>?_
   have o3:Ok (z.on [(I,ob2),(C,oC3),(Da,cL racc nD)]) ⟨{ σ.s with heap:=h3,toks:=tk3 },σ.ρ⟩ Hc :=
    ⟨S3.perm (.swap (I,ob2) (C,oC3) _),o.rst.to _ _,fun q hq=>List.mem_append_right _ (hs q hq),o.rd,o.ln⟩
   refine hT (z.inn ok is [(I,ob2),(C,oC3),(Da,cL racc nD)] C oC3 env1) _ Hc Ht true (iYa hin ok hi o3 (.tail _ (.head _)) hn3 hset hbv) et _ _ fun σ4 o4 g4=>?_
   refine hE (z.inn ok is [(I,ob2),(C,oC3),(Da,cL racc nD)] C oC3 env1) σ4 Ht H2 x o4 ex _ _ fun σ5 rx o5 g5 hx=>?_
   have o4z:=(o3.again o4.st o4.rst g4).rd
   clear o4 o3 S3 S2
   have S5':=o5.st.perm (X':=(Da,cL racc nD) :: (I,ob2) :: (C,oC3) :: z.X) (((List.Perm.swap (Da,cL racc nD) (C,oC3) z.X).cons (I,ob2)).trans (.swap _ _ _))
   have hvl:acc.length ≤ 1000:=Nat.le_trans (by rw [← hcat,List.length_append]; exact Nat.le_add_right _ _) hlen
   refine append_at S5'.behind.1 (fun h6 hs6 e9=>?_) (by rw [List.size_toArray,hacc.length]; exact iR (Nat.le_trans hvl (by decide)))
   have S6:St z.c z.m h6 σ5.ρ H2 ((I,ob2) :: (C,oC3) :: (Da,cL (racc ++ [rx]) (nD + 1)) :: z.X) :=
    St.perm (S5'.turnX hs6 (ob':=cL (racc ++ [rx]) (nD + 1)) (by simpa using e9)) ((List.Perm.swap _ _ _).trans ((List.Perm.swap (C,oC3) _ z.X).cons (I,ob2)))
   have o6:Ok (z.on [(I,ob2),(C,oC3),(Da,cL (racc ++ [rx]) (nD + 1))]) ⟨{ σ5.s with heap:=h6 },σ5.ρ⟩ H2 :=
    ⟨S6,o5.rst.to _ _,fun q hq=>List.mem_append_right _ (hs q hq),fun x i hl v hv=>let ⟨rv,r,q⟩:=o4z x i hl v hv; ⟨rv,r,q.grow g5⟩,o.ln⟩
   exact ⟨_,Nat.sub_lt_sub_left hlt (Nat.lt_succ_self i),.mk (i + 1) ⟨_,σ5.ρ⟩ _ ob2 oC3 _ (racc ++ [rx]) (nD + 1) (acc ++ [x]) xs' rfl ⟨o6,hI.grow hP2 (g4.trans g5),hn3,(hacc.grow (g4.trans g5)).append (.cons hx .nil),g1.trans (g4.trans g5),e3,
    by rw [← hcat,hr,List.append_assoc]; rfl,hlt⟩ rfl⟩
end Mine
end
section
open PySem PySem.W PyProof.Rows PySem.Calls
namespace Mine
theorem aZa {e:Expr} (h:lZ e = true) (env:PySem.Env) (x:Value):foldedSetIterable e env x = pure x:=by
 cases e <;> first | rfl | exact nos h | exact nof h | cases h
variable {D:Wd} {n:Nat} {Γ:Sc} {cf:aU} {z:Z D n Γ} {σ:Sg} {H H1 H2 H':Heap} {E:Value→Shared→Prop} {sc:Scope} {xs:List PySem.Str} {is:List Nat} {u:Bool} {tgt:Expr} {ifs:List Expr} {ts:ITs} {elt:Expr} {te:IE} {iter:Expr} {pos:Pos}
noncomputable abbrev KI (z:Z D n Γ) (σ:Sg) (it:It) (H':Heap) (Q:Value→Shared→Prop):Prop:=∀ σ' I ob P,Itr D z.A I it P→P 0 ob σ'.ρ→Ok (z.on [(I,ob)]) σ' H'→aQ σ.ρ σ'.ρ→Q (.ref I) σ'.s
noncomputable def SI (D:Wd) (n:Nat) (cf:aU) (Γ:Sc) (e:Expr) (t:II):Prop :=
 ∀ (z:Z D n Γ) σ H H' it,Ok z σ H→fJ cf z.env t H = some (it,H')→∀ Q E,KI z σ it H' Q→wpAny (model D.prog D.w) z.A (eval e z.penv) (fun xv s₁=>wpAny (model D.prog D.w) z.A (pyIter xv) Q E s₁) E σ.s
structure CO (D:Wd) (n:Nat) (cf:aU) (Γ:Sc) (sc:Scope) (xs:List PySem.Str) (is:List Nat) (u:Bool) (tgt:Expr) (iter:Expr) (ti:II) (ifs:List Expr) (ts:ITs) (elt:Expr) (te:IE):Prop where
 hin:Γ.inner = none
 tg:Tgt u xs tgt
 ok:mF Γ.names sc xs
 hi:xs.length = is.length∧is.Nodup∧∀ i ∈ is,Γ.n ≤ i
 hit:lZ iter = true
 I:SI D n cf Γ iter ti
 T:STs D n cf (jD Γ sc xs is) ifs ts
 E:SE D n cf (jD Γ sc xs is) elt te
theorem eMa {ti:II} (c:CO D n cf Γ sc xs is u tgt iter ti ifs ts elt te) (hs:∀ q ∈ z.C,q ∈ z.X) {I:Addr} {ob:Obj} {it:It} {P:Nat→Obj→Rho→Prop} (hI:Itr D z.A I it P) (hP:P 0 ob σ.ρ) {vs:List V}
  (o:Ok (z.on [(I,ob)]) σ H) (hrun:fY it (pF cf z.env is u ts te) it.items H = some (vs,H2)) (hl:vs.length ≤ 1000) {RR:Value→Addr→Result→Shared→Prop}
  (fin:∀ σ' Da C oC mC racc nD,sysModules < Da→Ok (z.on [(C,oC),(Da,cL racc nD)]) σ' H2→NsO oC mC→VRs σ'.ρ vs racc→aQ σ.ρ σ'.ρ→RR (.ref Da) C (.ok .next) σ'.s) :
  wpAny (model D.prog D.w) z.A (newList []) (fun acc s₃=>wpAny (model D.prog D.w) z.A (newFunctionEnv sc z.penv.globals (cl sc z.penv) [] z.penv.qual none .none (some z.penv)) (fun cenv s₄ =>
   codeAny (model D.prog D.w) z.A (.compStart (.ListComp elt [⟨tgt,iter,ifs,0⟩] sc pos) 0 (.ref I) acc { cenv with scope:=relabel sc z.penv }) (RR acc cenv.locals) s₄) E s₃) E σ.s:=by
 have hd:sysModules < σ.s.heap.objs.size:=uM o.st.fr z.c.T.nolimit
 refine wpAny_newObj_type ?_ (by show 0 ≤ sizeLine; exact Nat.zero_le _)
 have S1:=o.st.hide_push (cL [] 0)
 refine wpAny_newFunctionEnv (fun y hy q=>by rcases c.ok.kinds y hy with h | h | ⟨h,_⟩ <;> rw [h] at q <;> cases q) (by intro y hy; simp at hy) (fun h₁ hns hsb=>?_) c.ok.kind
 refine cps fun G_ g_=>?_
 obtain ⟨oC,es0,ep0,eC,r0⟩:=id hns
 refine g_ ?_
 clear g_
 have S2:=(S1.hide_push { cls:=.type "dict",data:=.dict #[] }).turnX hsb eC
 have S3:=S2.perm (X':=(I,ob) :: ((σ.s.heap.push (cL [] 0)).objs.size,oC) :: (σ.s.heap.objs.size,cL [] 0) :: z.X)
  (((List.Perm.swap (I,ob) (σ.s.heap.objs.size,cL [] 0) z.X).cons _).trans (.swap _ _ _))
 have o3:Ok (z.on [(I,ob),((σ.s.heap.push (cL [] 0)).objs.size,oC),(σ.s.heap.objs.size,cL [] 0)]) ⟨{ σ.s with heap:=h₁,toks:=σ.s.toks + 0 },σ.ρ⟩ H:=⟨S3,o.rst.to _ _,fun q hq=>List.mem_append_right _ (hs q hq),o.rd,o.ln⟩
 have go:=jBa (iter:=iter) (pos:=pos) (R:=RR (.ref σ.s.heap.objs.size) (σ.s.heap.push (cL [] 0)).objs.size) c.hin hs c.tg c.ok c.hi c.T c.E hI hl (fun σ' oC racc nD mC o' hn hr g=>fin σ' _ _ oC mC racc nD hd o' hn hr g)
  ⟨o3,hP,NsO.of hns eC,.nil,aQ.refl _,hrun,List.nil_append _,Nat.zero_le _⟩
 exact codeAny_compStart_list go (hI.self hP S3.behind.1 go)
theorem closed {ti:II} (c:CO D n cf Γ sc xs is u tgt iter ti ifs ts elt te) (z:Z D n Γ):closureFor sc z.penv = pure (cl sc z.penv):=pGa fun y hy hf=>by
 rcases c.ok.kinds y hy with h | h | ⟨_,h⟩
 ·rw [h] at hf; first | exact nos hf | exact nof hf | cases hf
 ·rw [h] at hf; first | exact nos hf | exact nof hf | cases hf
 ·exact (z.pk.ck c.hin _ h).2
theorem Ok.reveal (hs:∀ q ∈ z.C,q ∈ z.X) {C Da:Addr} {oC:Obj} {racc:List Value} {nD:Nat} {vs:List V} (o:Ok (z.on [(C,oC),(Da,cL racc nD)]) σ H2) (hd:sysModules < Da) (hr:VRs σ.ρ vs racc) (hl:vs.length ≤ 1000) :
  Ok (z.on [(C,oC)]) ⟨σ.s,σ.ρ ++ [(Da,[])]⟩ (H2 ++ [.list vs])∧VR (σ.ρ ++ [(Da,[])]) (.ref H2.length) (.ref Da):=by
 have S3:=o.st.perm (X':=(Da,cL racc nD) :: (C,oC) :: z.X) (.swap _ _ _)
 have hr':(σ.ρ ++ [(Da,[])])[H2.length]? = some (Da,([]:List Addr)):=mU S3.sim.len
 exact ⟨⟨S3.reveal hd (.list S3.behind.1 (hr.grow (aQ.app _ _)) (Nat.le_trans hl (by decide))),o.rst,fun q hq=>List.mem_append_right _ (hs q hq),fun x i hl v hv=>let ⟨rv,r,q⟩:=o.rd x i hl v hv; ⟨rv,r,q.grow (aQ.app _ _)⟩,o.ln⟩,VR.ref (r:=(Da,[])) hr'⟩
theorem mD {ti:II} (c:CO D n cf Γ sc xs is u tgt iter ti ifs ts elt te):SE D n cf Γ (.ListComp elt [⟨tgt,iter,ifs,0⟩] sc pos) (.comp is u ti ts te):=fun z σ H H' v o ev Q E kk=>by
 refine cps fun G_ g_=>?_
 obtain ⟨it,H1,e1,h1⟩:=aW (show bnd (fJ cf z.env ti H) _ = some (v,H') from ev)
 obtain ⟨vs,H2,e2,h2⟩:=aW h1
 clear h1 ev; obtain ⟨hl,rfl,rfl⟩:=oU h2
 refine g_ ?_
 clear g_
 rw [eval_ListComp]
 refine wpAny_comprehension_free (use:=none) rfl (aZa c.hit z.penv) (closed c z) c.ok.kind (fun y hy hl=>by rw [c.ok.look y hy,hl]) (c.I z σ H H1 it o e1 _ _ fun σ1 I ob P hI hP o1 g1=>?_)
 refine eMa (RR:=fun acc C=>compPost (model D.prog D.w) z.A E none Q acc C) c o.sub hI hP o1 e2 hl fun σ2 Da C oC mC racc nD hd o2 hn hr g2=>?_
 refine ⟨mC,hn _ _ o2.st.behind.1,fun h3 hs=>?_⟩
 obtain ⟨o3,hv⟩:=o2.reveal o.sub hd hr hl
 exact kk ⟨{ σ2.s with heap:=h3 },_⟩ _ ((o3.drop o.sub).to (h':=h3) (tk':=σ2.s.toks) (o3.st.dropBut hs.extBut) (aQ.refl _)) ((g1.trans g2).trans (aQ.app _ _)) hv
theorem aLa {k:Option Expr} {ks:List (Option Expr)} {xs:List PySem.Str} (h:keysOf (k :: ks) = some xs):∃ x j p r,k = some (.Constant (.str x) j p)∧xs = x :: r∧keysOf ks = some r:=by
 refine cps fun G_ g_=>?_
 obtain ⟨x,ex,h1⟩:=bind_eq (show (keyOf k).bind _ = some xs from h)
 clear h; obtain ⟨r,er,rfl⟩:=map_eq h1
 clear h1; obtain ⟨e,rfl,h2⟩:=bind_eq ex
 clear ex; obtain ⟨⟨c,j,p,rfl⟩,_,h3⟩:=bind_eq h2
 clear h2; obtain rfl:=val_eq h3
 refine g_ ?_
 clear g_
 exact ⟨_,_,_,_,rfl,rfl,er⟩
theorem eHa:∀ {ks:List (Option Expr)} {xs:List PySem.Str},keysOf ks = some xs→ks.length = xs.length∧ks.all (·.isSome) = true
 | [],xs,h=>by cases h; exact ⟨rfl,rfl⟩
 | k :: ks,xs,h=>by
  obtain ⟨x,j,p,r,rfl,rfl,h'⟩:=aLa h
  obtain ⟨h1,h2⟩:=eHa h'
  exact ⟨by simp [h1],by simp [h2]⟩
theorem cQa {f:Expr→IE}:∀ {es:List Expr} {H:Heap} {vs:List V} {H1:Heap},bN cf z.env (gP (es.map f)) H = some (vs,H1)→es.length = vs.length
 | [],H,vs,H1,ev=>by
  have ev:some (([]:List V),H) = some (vs,H1):=ev
  cases ev; rfl
 | e :: es,H,vs,H1,ev=>by
  obtain ⟨x,H2,e1,h1⟩:=aW (show bnd (aH cf z.env (f e) H) _ = some (vs,H1) from ev)
  obtain ⟨ys,H3,e2,h2⟩:=aW h1
  clear h1 e1 ev; cases h2
  simp [cQa e2]
noncomputable abbrev KP (z:Z D n Γ) (σ:Sg) (xs:List PySem.Str) (vs:List V) (H':Heap) (Q:List (Value × Value)→Shared→Prop):Prop :=
 ∀ σ' prs kvs,Ok z σ' H'→aQ σ.ρ σ'.ρ→Carries (strKind D.prog D.w) prs kvs→kvs.map (·.1) = xs→VRs σ'.ρ vs (kvs.map (·.2))→Q prs σ'.s
theorem hYa {f:Expr→IE} (ih:∀ e,SE D n cf Γ e (f e)):∀ {es:List Expr} {ks:List (Option Expr)} {xs:List PySem.Str} {vs:List V} {z:Z D n Γ} {σ:Sg} {H H':Heap} {pos:Pos} {Q:List (Value × Value)→Shared→Prop},keysOf ks = some xs→xs.length = vs.length→Ok z σ H →
  bN cf z.env (gP (es.map f)) H = some (vs,H')→KP z σ xs vs H' Q→wpAny (model D.prog D.w) z.A (evalPairs (pairTrees ks es z.penv pos)) Q E σ.s
 | [],ks,xs,vs,z,σ,H,H',pos,Q,hk,hl,o,ev,k=>by
  have ev:some (([]:List V),H) = some (vs,H'):=ev
  cases ev
  cases ks with
  | nil=>cases hk; exact evalPairs_nil (k σ [] [] o (aQ.refl _) trivial rfl .nil)
  | cons _ _=>obtain ⟨x,j,p,r,rfl,rfl,h'⟩:=aLa hk; first | exact nos hl | exact nof hl | cases hl
 | e :: es,ks,xs,vs,z,σ,H,H',pos,Q,hk,hl,o,ev,k=>by
  refine cps fun G_ g_=>?_
  obtain ⟨x,H1,e1,h1⟩:=aW (show bnd (aH cf z.env (f e) H) _ = some (vs,H') from ev)
  obtain ⟨ys,H2,e2,h2⟩:=aW h1
  refine g_ ?_
  clear g_
  clear h1 ev; cases h2
  cases ks with
  | nil=>cases hk; first | exact nos hl | exact nof hl | cases hl
  | cons _ ks =>
   obtain ⟨y,j,p,r,rfl,rfl,h'⟩:=aLa hk
   refine evalPairs_cons (wpAny_Constant_str ?_)
   refine wpAny_bind (ih e z ⟨{ σ.s with toks:=σ.s.toks + 1 },σ.ρ⟩ H H1 x (o.to (h':=σ.s.heap) o.st (aQ.refl _)) e1 _ _ fun σ1 rx o1 g1 hx=>wpAny_bind (wpAny_standAt (wpAny_pure ?_)))
   exact hYa ih h' (Nat.succ.inj hl) o1 e2 fun σ2 prs kvs o2 g2 hc hkv hv =>
    k σ2 _ ((_,_) :: kvs) o2 (g1.trans g2) ⟨jF _ _ _ _,rfl,hc⟩ (by rw [List.map_cons,hkv]) (.cons (hx.grow g2) hv)
theorem iU {f:Expr→IE} (ih:∀ e,SE D n cf Γ e (f e)) {ks:List (Option Expr)} {es:List Expr} {xs:List PySem.Str} (hk:keysOf ks = some xs):SE D n cf Γ (.Dict ks es pos) (.dict xs (gP (es.map f))):=fun z σ H H' v o ev Q E kk=>by
 obtain ⟨vs,H1,e1,h1⟩:=aW (show bnd (bN cf z.env (gP (es.map f)) H) _ = some (v,H') from ev)
 obtain ⟨hl,h2⟩:=bD h1
 have hl:=of_decide_eq_true hl
 clear h1; cases h2
 obtain ⟨k1,k2⟩:=eHa hk
 have hes:=cQa e1
 have S:=o.st
 have hd:sysModules < σ.s.heap.objs.size:=uM S.fr z.c.T.nolimit
 by_cases h0:ks = []
 ·subst h0
  cases hk
  cases es with
  | cons _ _=>rw [← hl.1] at hes; simp at hes
  | nil =>
   have ev:some (([]:List V),H) = some (vs,H1):=e1
   cases ev
   have hr:(σ.ρ ++ [(σ.s.heap.objs.size,[])])[H.length]? = some (σ.s.heap.objs.size,([]:List Addr)):=mU S.sim.len
   exact wpAny_Dict_empty (o.k kk _ σ.s.toks _ _ (S.push rfl (.dict (Heap.DictOf.new _) .nil (by decide))) (aQ.app _ _) (VR.ref (r:=(σ.s.heap.objs.size,[])) hr))
 ·refine wpAny_Dict_walk (knd:=strKind D.prog D.w) k2 (by rw [k1,hl.1,hes]) h0 (by rw [k1]; exact hl.2) ?_
  refine hYa (z:=z.on [(σ.s.heap.objs.size,_)]) (σ:=⟨{ σ.s with heap:=_ },σ.ρ⟩) ih hk hl.1 ⟨S.hide_push _,o.rst.to _ σ.s.toks,fun q hq=>List.mem_append_right _ (o.sub q hq),o.rd,o.ln⟩ e1 fun σ1 prs kvs o1 g1 hc hkv hv=>⟨kvs,hc,?_,fun h' d' hs=>?_⟩
  ·obtain ⟨e2,_⟩:=o1.st.behind
   obtain ⟨oo,es0,ep,ho,r⟩:=Heap.DictOf.new (knd:=strKind D.prog D.w) σ.s.heap
   rw [Heap.get?_push_size _ rfl] at ho
   exact ⟨oo,es0,ep,e2.trans ho,r⟩
  ·obtain ⟨o',ho'⟩:=DictOf.here d'
   have S2:=o1.st.turnX hs ho'
   have hr:(σ1.ρ ++ [(σ.s.heap.objs.size,[])])[H1.length]? = some (σ.s.heap.objs.size,([]:List Addr)):=mU o1.st.sim.len
   have hp:=hAa (ρ:=σ1.ρ) .nil List.nodup_nil hkv hv
   have S3:=S2.reveal hd (.dict d' (hp.grow (aQ.app _ _)) (by
    have q1:=hp.length
    have q2:=merged_length_le (K:=PySem.Str) [] kvs
    have q3:kvs.length = xs.length:=by rw [← hkv,List.length_map]
    simp only [List.length_nil,Nat.zero_add] at q2
    exact lin [_,_,_,_] .x (.n 2000) [(.x,.y),(.y,.z),(.z,.w),(.w,.n 15)] rfl (Nat.le_of_eq q1.symm) q2 (Nat.le_of_eq q3) hl.2))
   exact kk ⟨{ σ1.s with heap:=h',toks:=σ1.s.toks + prs.length },_⟩ _ (o.again S3 (o1.rst.to _ _) (g1.trans (aQ.app _ _))) (g1.trans (aQ.app _ _)) (VR.ref (r:=(σ.s.heap.objs.size,[])) hr)
end Mine
end
section
open PySem PySem.W PyProof.Rows PySem.Calls
namespace Mine
variable {D:Wd} {n:Nat} {Γ:Sc} {cf:aU} {z:Z D n Γ} {σ:Sg} {H H1 H2 H':Heap} {E:Value→Shared→Prop} {r:Tr} {pos:Pos} {Q:Value→Shared→Prop}
theorem Ok.ki (o:Ok z σ H) {it:It} (k:KI z σ it H Q) {h':Real} {tk:Nat} {I:Addr} {ob:Obj} {P:Nat→Obj→Rho→Prop} (hI:Itr D z.A I it P) (hP:P 0 ob σ.ρ) (S:St z.c z.m h' σ.ρ H ((I,ob) :: z.X)):Q (.ref I) { σ.s with heap:=h',toks:=tk } :=
 k ⟨_,σ.ρ⟩ I ob P hI hP ⟨S,o.rst.to _ _,fun q hq=>List.mem_append_right _ (o.sub q hq),o.rd,o.ln⟩ (aQ.refl _)
theorem lDa (o:Ok z σ H) {v:V} {rv:Value} (hv:VR σ.ρ v rv) {it:It} (e:mX v H = some it) (k:KI z σ it H Q):wpAny (model D.prog D.w) z.A (pyIter rv) Q E σ.s:=by
 cases v with
 | ref a =>
  cases eo:H[a]? with
  | none=>rw [show mX (.ref a) H = itO a H[a]? from rfl,eo] at e; first | exact nos e | exact nof e | cases e
  | some oo =>
   rw [show mX (.ref a) H = itO a H[a]? from rfl,eo] at e
   obtain ⟨b,as,rfl,q1,o1⟩:=o.st.look hv eo
   clear eo; cases o1 with
   | list g vr ll =>
    cases e
    exact wpAny_pyIter_list ⟨_,g,rfl,_,rfl⟩ (o.ki k (tk:=σ.s.toks) (tFa z.ar.hd) ⟨b,_,q1,rfl,rfl⟩ (o.st.hide_push _))
   | tuple g vr ll =>
    clear ll vr; cases e
    exact wpAny_pyIter_tuple ⟨_,g,rfl,_,rfl⟩ (o.ki k (tk:=σ.s.toks) (sCa z.ar.hd) ⟨b,_,q1,rfl,rfl⟩ (o.st.hide_push _))
   | dict _ _ _=>first | exact nos e | exact nof e | cases e
   | idict _ _ _=>first | exact nos e | exact nof e | cases e
   | tdict _ _ _=>first | exact nos e | exact nof e | cases e
   | inst _ _ _ _ _ _=>first | exact nos e | exact nof e | cases e
 | str x =>
  cases e
  cases hv
  exact wpAny_pyIter_strU (o.ki k (tk:=σ.s.toks) (lGa z.ar.hd) ⟨_,rfl,rfl⟩ (o.st.hide_push _))
 | _=>first | exact nos e | exact nof e | cases e
theorem gF {e:Expr} {t:IE} (h:SE D n cf Γ e t):SI D n cf Γ e (.of t):=fun z σ H H' it o ev Q E k=>by
 refine cps fun G_ g_=>?_
 obtain ⟨v,H1,e1,h1⟩:=aW (show bnd (aH cf z.env t H) (fun v H1=>cD (mX v H1) H1) = some (it,H') from ev)
 clear ev; obtain ⟨e2,rfl⟩:=iW h1
 refine g_ ?_
 clear g_
 exact h z σ H _ v o e1 _ _ fun σ1 rv o1 g1 hv=>lDa o1 hv e2 fun σ2 I ob P hI hP o2 g2=>k σ2 I ob P hI hP o2 (g1.trans g2)
theorem sMa:bootBuiltins (PySem.Str.ofString "range") = some (.type "range")∧PySem.Str.ofString "range" ≠ "__name__":=⟨by decide +kernel,by decide⟩
theorem pOa:bootBuiltins (PySem.Str.ofString "reversed") = some (.type "reversed")∧PySem.Str.ofString "reversed" ≠ "__name__":=⟨by decide +kernel,by decide⟩
theorem eLa {g:PySem.Str} {id:String} {p1 p:Pos} {a:Expr} {t:IE} (h:SE D n cf Γ a t) (hs:notStar a = true) (hm:Γ.glob g = true) (hn:nsIn D.K mainGlobals g = some none) (hb:bootBuiltins g = some (.type id)∧g ≠ "__name__") (o:Ok z σ H) {v:V} (e1:aH cf z.env t H = some (v,H1))
  (k:K z σ v H1 fun rv s₁=>wpAny (model D.prog D.w) z.A (call (.type id) [rv]) (fun xv s₁=>wpAny (model D.prog D.w) z.A (pyIter xv) Q E s₁) E s₁) :
  wpAny (model D.prog D.w) z.A (eval (.Call (.Name g p1) [a] [] p) z.penv) (fun xv s₁=>wpAny (model D.prog D.w) z.A (pyIter xv) Q E s₁) E σ.s :=
 Call_ (o.bltn hm hn hb (callWith_type1 (args_cons (h z σ H H1 v o e1 _ _ fun σ1 rv o1 g1 hv=>args_nil (k σ1 rv o1 g1 hv)) (oA hs)) (oA hs))) (by rfl)
set_option tactic.hygienic true in
theorem mXa (o:Ok z σ H) {v:V} {rv:Value} (hv:VR σ.ρ v rv) {it:It} (e:vI v = some it) (k:KI z σ it H Q) :
  wpAny (model D.prog D.w) z.A (call (.type "range") [rv]) (fun xv s₁=>wpAny (model D.prog D.w) z.A (pyIter xv) Q E s₁) E σ.s:=by
 obtain ⟨m,em,e1⟩:=bind_eq e
 obtain ⟨hb,e2⟩:=bD e1
 have hb:=of_decide_eq_true hb
 clear e1; cases e2
 cases iZ em
 clear em; cases hv
 rename_i tok
 have hr:Builtin.Range.rangeSize 0 m 1 = max m 0 - ((0:Nat):Int):=by rw [rangeSize_one]; exact zS_
 refine call_range_1 (wpAny_pyIter_range (IsRange.new _ _ _ _ _ _ _) (small_one (by decide) (by decide) (by exact Int.le_trans (by decide) hb.1) (Int.lt_of_le_of_lt hb.2 (by decide))) ?_)
 have S1:St z.c z.m (σ.s.heap.push { cls:=.type "range",data:=.fields #[.int 0 σ.s.toks,.int m tok,.int 1 (σ.s.toks + 1)] }) σ.ρ H z.X:=o.st.keeps fun b o e=>Heap.get?_push_of_some _ e
 rw [hr]
 exact o.ki k (jHa z.ar.hd) ⟨by exact Int.le_max_right _ _,rfl⟩ (S1.hide_push _)
theorem kXa (o:Ok z σ H) {v:V} {rv:Value} (hv:VR σ.ρ v rv) {it:It} (e:vP v H = some it) (k:KI z σ it H Q) :
  wpAny (model D.prog D.w) z.A (call (.type "reversed") [rv]) (fun xv s₁=>wpAny (model D.prog D.w) z.A (pyIter xv) Q E s₁) E σ.s:=by
 obtain ⟨a,ea,e1⟩:=bind_eq e
 obtain ⟨vs,e2,e3⟩:=map_eq e1
 clear e1 e; cases e3
 cases iD ea
 clear ea; obtain ⟨b,as,rfl,q1,o1⟩:=o.st.look hv (kY e2)
 clear hv e2; cases o1 with
 | @list _ rvs n g vr ll =>
 have hlen:=vr.length
 have P0:aUa a vs.length 0 (revObj b (((rvs.toArray.size:Nat):Int) - 1)) σ.ρ:=⟨b,_,q1,Nat.zero_le _,rfl,by
  show Data.fields _ = Data.fields _
  rw [List.size_toArray,hlen,show ((vs.length:Int) - 1 - ((0:Nat):Int)) = (vs.length:Int) - 1 by exact Int.sub_zero _]⟩
 refine call_reversed_list ⟨_,g,rfl,_,rfl⟩ ?_
 have S1:=o.st.hide_push (revObj b (((rvs.toArray.size:Nat):Int) - 1))
 exact (cTa (D:=D) z.ar.hd).self P0 S1.behind.1 (o.ki k (tk:=σ.s.toks) (cTa z.ar.hd) P0 S1)
theorem wWa {e:Expr} {p:PySem.Str × Expr} (h:vZ e = some p):∃ p1 p2,e = .Call (.Name p.1 p1) [p.2] [] p2:=val_eq (a:=p) h
theorem cDa {cf:aU} {env:Mine.Env} {b:Bool} {t:IE} {H:Heap} {x:V × Heap} (h:aH cf env (iffE b t) H = some x):b = true∧aH cf env t H = some x:=by
 cases b with
 | true=>exact ⟨rfl,h⟩
 | false=>first | exact nos h | exact nof h | cases h
set_option tactic.hygienic true in
theorem wJ (hG:GOk D) (ih:∀ e,SE D n cf Γ e (r.e Γ e)) (e:Expr):SI D n cf Γ e (trI r Γ e):=by
 unfold trI
 cases hc:vZ e with
 | none=>exact gF (ih e)
 | some p =>
  obtain ⟨p1,p2,rfl⟩:=wWa hc
  dsimp only
  clear hc; split
  ·rename_i hg
   exact fun z σ H H' it o ev Q E k=>by
    refine cps fun G_ g_=>?_
    obtain ⟨v,H1,e1,h1⟩:=aW (show bnd (aH cf z.env (iffE _ _) H) (fun v H1=>cD (vI v) H1) = some (it,H') from ev)
    obtain ⟨e2,rfl⟩:=iW h1
    obtain ⟨hb,e3⟩:=cDa e1
    obtain ⟨hm,hs⟩:=Bool.and_eq_true_iff.mp hb
    refine g_ ?_
    clear g_
    exact eLa (ih p.2) hs hm (by rw [hg]; exact hG.rng.1) (by rw [hg]; exact sMa) o e3 fun σ1 rv o1 g1 hv=>mXa o1 hv e2 fun σ2 I ob P hI hP o2 g2=>k σ2 I ob P hI hP o2 (g1.trans g2)
  ·split
   ·rename_i hg
    exact fun z σ H H' it o ev Q E k=>by
     refine cps fun G_ g_=>?_
     obtain ⟨v,H1,e1,h1⟩:=aW (show bnd (aH cf z.env (iffE _ _) H) (fun v H1=>cD (vP v H1) H1) = some (it,H') from ev)
     clear ev; obtain ⟨e2,rfl⟩:=iW h1
     obtain ⟨hb,e3⟩:=cDa e1
     obtain ⟨hm,hs⟩:=Bool.and_eq_true_iff.mp hb
     refine g_ ?_
     clear g_
     exact eLa (ih p.2) hs hm (by rw [hg]; exact hG.rng.2) (by rw [hg]; exact pOa) o e3 fun σ1 rv o1 g1 hv=>kXa o1 hv e2 fun σ2 I ob P hI hP o2 g2=>k σ2 I ob P hI hP o2 (g1.trans g2)
   ·exact gF (ih _)
theorem wJa {a:Expr} {t:IT} {p:Pos} (h:ST D n cf Γ a t):ST D n cf Γ (.UnaryOp .Not a p) (.not t):=fun z σ H H' b o ev whole Q E hw k=>by
 obtain ⟨x,H1,e1,h1⟩:=aW (show bnd (bZ cf z.env t H) _ = some (b,H') from ev)
 clear hw ev; cases h1
 exact isTrue_not (h z σ H _ x o e1 _ _ _ rfl fun σ1 o1 g1=>k σ1 o1 g1)
theorem mYa {M:Model} {A:Around} {s:Shared} {env:PySem.Env} {l:List Expr} {pos:Pos} {whole whole':Sem Value} {Q:Bool→Shared→Prop} (h:wpAny M A (PySem.isTrue (.BoolOp .And l pos) env whole) Q E s) :
  wpAny M A (PySem.isTrue (.BoolOp .And l pos) env whole') Q E s:=h
theorem jN {a b:Expr} {ta tb:IT} {p:Pos} (ha:ST D n cf Γ a ta) (hb:ST D n cf Γ b tb):ST D n cf Γ (.BoolOp .And [a,b] p) (.and ta tb):=fun z σ H H' v o ev whole Q E hw k=>by
 obtain ⟨x,H1,e1,h1⟩:=aW (show bnd (bZ cf z.env ta H) _ = some (v,H') from ev)
 refine isTrue_and (ha z σ H H1 x o e1 _ _ _ rfl fun σ1 o1 g1=>?_)
 clear e1 hw ev o ha; cases x with
 | true =>
  refine isTrue_and (hb z σ1 H1 H' v o1 h1 _ _ _ rfl fun σ2 o2 g2=>?_)
  have q:=k σ2 o2 (g1.trans g2)
  clear g2 o2 hb; cases v with
  | true=>exact isTrue_and_nil q
  | false=>exact q
 | false=>cases h1; exact k σ1 o1 g1
theorem uLa {a b c:Expr} {es:List Expr} {ta tb:IT} {p:Pos} (ha:ST D n cf Γ a ta) (hb:ST D n cf Γ (.BoolOp .And (b :: c :: es) p) tb):ST D n cf Γ (.BoolOp .And (a :: b :: c :: es) p) (.and ta tb):=fun z σ H H' v o ev whole Q E hw k=>by
 obtain ⟨x,H1,e1,h1⟩:=aW (show bnd (bZ cf z.env ta H) _ = some (v,H') from ev)
 refine isTrue_and (ha z σ H H1 x o e1 _ _ _ rfl fun σ1 o1 g1=>?_)
 clear e1 hw ev o ha; cases x with
 | true=>exact mYa (hb z σ1 H1 H' v o1 h1 _ _ _ rfl fun σ2 o2 g2=>k σ2 o2 (g1.trans g2))
 | false=>cases h1; exact k σ1 o1 g1
theorem yR {a b:Expr} {ta tb:IT} {p:Pos} (ha:ST D n cf Γ a ta) (hb:ST D n cf Γ b tb):ST D n cf Γ (.BoolOp .Or [a,b] p) (.or ta tb):=fun z σ H H' v o ev whole Q E hw k=>by
 obtain ⟨x,H1,e1,h1⟩:=aW (show bnd (bZ cf z.env ta H) _ = some (v,H') from ev)
 refine isTrue_or (ha z σ H H1 x o e1 _ _ _ rfl fun σ1 o1 g1=>?_)
 clear e1 hw ev o ha; cases x with
 | false =>
  refine isTrue_or (hb z σ1 H1 H' v o1 h1 _ _ _ rfl fun σ2 o2 g2=>?_)
  have q:=k σ2 o2 (g1.trans g2)
  clear g2 o2 hb; cases v with
  | false=>exact isTrue_or_nil q
  | true=>exact q
 | true=>cases h1; exact k σ1 o1 g1
theorem fK {e:Expr} {t:IE} (h:SE D n cf Γ e t) (hp:∀ (A:Around) (s:Shared) (penv:PySem.Env) (Q:Bool→Shared→Prop) (E:Value→Shared→Prop),wpAny (model D.prog D.w) A (eval e penv) (fun v s₁=>wpAny (model D.prog D.w) A (truthy v) Q E s₁) E s→wpAny (model D.prog D.w) A (PySem.isTrue e penv (eval e penv)) Q E s) :
  ST D n cf Γ e (.val t):=fun z σ H H' b o ev whole Q E hw k=>by
 obtain ⟨x,H1,e1,h1⟩:=aW (show bnd (aH cf z.env t H) _ = some (b,H') from ev)
 clear ev; obtain ⟨e2,rfl⟩:=iW h1
 clear h1; subst hw
 exact hp _ _ _ _ _ (h z σ H _ x o e1 _ _ fun σ1 rx o1 g1 hx=>rK hx e2 (k σ1 o1 g1))
theorem ST.dead {e:Expr}:ST D n cf Γ e (.val .dead):=fun z σ H H' b o ev whole Q E hw k=>by cases ev
theorem gDa {M:Model} {A:Around} {s:Shared} {penv:PySem.Env} {Q:Bool→Shared→Prop} (h:Q false s):∀ {es:List Expr},
  wpAny M A (forIn es false fun c r=>if r = true then do let ok ← PySem.isTrue c penv (eval c penv); pure (ForInStep.yield ok) else pure (ForInStep.yield r)) Q E s
 | []=>wpAny_pure h
 | _ :: es=>by
  rw [List.forIn_cons]
  simp only [Bool.false_eq_true,if_false]
  exact wpAny_bind (wpAny_pure (gDa h))
theorem iRa {f:Expr→IT} (ih:∀ e,ST D n cf Γ e (f e)):∀ es,STs D n cf Γ es (tG (es.map f))
 | []=>fun z σ H H' b o ev Q E k=>by
  have ev:some (true,H) = some (b,H'):=ev
  cases ev
  exact wpAny_pure (k σ o (aQ.refl _))
 | e :: es=>fun z σ H H' b o ev Q E k=>by
  refine cps fun G_ g_=>?_
  obtain ⟨x,H1,e1,h1⟩:=aW (show bnd (bZ cf z.env (f e) H) _ = some (b,H') from ev)
  refine g_ ?_
  clear g_
  rw [List.forIn_cons]
  simp only [if_true]
  refine wpAny_bind (wpAny_bind (ih e z σ H H1 x o e1 _ _ _ rfl fun σ1 o1 g1=>wpAny_pure ?_))
  clear e1 ev o; cases x with
  | true=>exact iRa ih es z σ1 H1 H' b o1 h1 _ _ fun σ2 o2 g2=>k σ2 o2 (g1.trans g2)
  | false=>cases h1; exact gDa (k σ1 o1 g1)
end Mine
end
section
open PySem PySem.W PyProof.Rows PySem.Calls
namespace Mine
variable {D:Wd} {n:Nat} {Γ:Sc} {cf:aU} {z:Z D n Γ} {σ:Sg} {H H1 H2 H':Heap} {E:Value→Shared→Prop} {r:Tr} {pos:Pos} {Q:Value→Shared→Prop}
theorem dQa (hG:GOk D) (ihE:∀ Γ e,SE D n cf Γ e (r.e Γ e)) (ihT:∀ Γ e,ST D n cf Γ e (r.t Γ e)) {elt:Expr} {u:Bool} {xs:List PySem.Str} {tgt it:Expr} {ifs:List Expr} {sc:Scope} (tg:Tgt u xs tgt)
  (hb:(sE Γ.names sc xs && lZ it && Γ.inner.isNone && decide (xs.length ≤ 4)) = true) :
  let is:=(List.range xs.length).map (Γ.n + ·)
  CO D n cf Γ sc xs is u tgt it (trI r Γ it) ifs (tG (ifs.map (r.t (jD Γ sc xs is)))) elt (r.e (jD Γ sc xs is) elt):=by
 simp only [Bool.and_eq_true] at hb
 obtain ⟨⟨⟨h1,h2⟩,h3⟩,_⟩:=hb
 refine ⟨Option.isNone_iff_eq_none.mp h3,tg,pHa h1,⟨by simp,?_,fun i hi=>?_⟩,h2,wJ hG (ihE Γ) it,iRa (ihT _) ifs,ihE _ elt⟩
 ·exact List.Pairwise.map _ (fun a b h q=>h (Nat.add_left_cancel q)) (List.nodup_range (n:=xs.length))
 ·clear h2 h1 h3 tg ihT ihE hG; obtain ⟨j,_,rfl⟩:=List.mem_map.mp hi
  exact Nat.le_add_right _ _
theorem mJa (hG:GOk D) (ihE:∀ Γ e,SE D n cf Γ e (r.e Γ e)) (ihT:∀ Γ e,ST D n cf Γ e (r.t Γ e)) {elt:Expr} {u:Bool} {xs:List PySem.Str} {tgt it:Expr} {ifs:List Expr} {sc:Scope} (tg:Tgt u xs tgt) :
  SE D n cf Γ (.ListComp elt [⟨tgt,it,ifs,0⟩] sc pos) (zQ r Γ elt u xs it ifs sc):=SE.iffE fun hb=>mD (dQa hG ihE ihT tg hb)
theorem rJa (hG:GOk D) (ihE:∀ Γ e,SE D n cf Γ e (r.e Γ e)) (ihT:∀ Γ e,ST D n cf Γ e (r.t Γ e)) (elt:Expr) (gs:List Comprehension) (sc:Scope):SE D n cf Γ (.ListComp elt gs sc pos) (rP r Γ elt gs sc):=by
 unfold rP
 cases aBa gs with
 | none=>exact SE.dead
 | some q =>
  obtain ⟨q,rfl,tg⟩:=q
  exact mJa hG ihE ihT tg
theorem nXa (ε:mG D cf n) (ihE:∀ Γ e,SE D n cf Γ e (r.e Γ e)) (ihT:∀ Γ e,ST D n cf Γ e (r.t Γ e)) (Γ:Sc) (e:Expr):SE D n cf Γ e (zU r Γ e):=by
 cases e with
 | Constant c k p=>exact pIa c k p
 | Name x p=>exact pKa x p
 | BinOp a op b p=>exact bW (ihE Γ a) (ihE Γ b)
 | UnaryOp op a p=>cases op with
  | USub=>exact uVa (ihE Γ a)
  | Not=>exact qNa (ihE Γ a)
  | _=>exact SE.dead
 | BoolOp op es p=>match es,op with
  | [a,b],.And=>exact uG (ihE Γ a) (ihE Γ b)
  | [a,b],.Or=>exact vJa (ihE Γ a) (ihE Γ b)
  | a :: b :: c :: es,.And=>exact wBa (ihE Γ a) (ihE Γ _)
  | a :: b :: c :: es,.Or=>exact SE.dead
  | [],_=>exact SE.dead
  | [_],_=>exact SE.dead
 | IfExp t a b p=>exact nQ (ihT Γ t) (ihE Γ a) (ihE Γ b)
 | Compare a ops bs p=>match ops,bs with
  | [op],[b]=>exact SE.iffE fun h=>fW (by simpa using h) (ihE Γ a) (ihE Γ b)
  | [],_=>exact SE.dead
  | _ :: _ :: _,_=>exact SE.dead
  | [_],[]=>exact SE.dead
  | [_],_ :: _ :: _=>exact SE.dead
 | Call f as kws p=>cases kws with
  | nil =>
   show SE D n cf Γ _ (yQ r Γ f as p)
   unfold yQ
   cases nameP f with
   | some q=>obtain ⟨⟨g,p1⟩,rfl⟩:=q; exact sZa ε (ihE Γ) g p1 as p
   | none=>cases mO f with
    | some q=>obtain ⟨⟨o,m,p1⟩,rfl⟩:=q; exact kBa ε (ihE Γ) o m p1 as p
    | none=>exact SE.dead
  | cons _ _=>exact SE.dead
 | Attribute o x p=>exact SE.optE fun i hi=>SE.iffE fun hb=>qQa ε.g hi hb (ihE Γ o)
 | Subscript o i p =>
  show SE D n cf Γ _ (match zP i with | some q=>.tail (r.e Γ o) (r.e Γ q.1) | none=>.sub (r.e Γ o) (r.e Γ i))
  cases zP i with
  | some q=>obtain ⟨lo,p1,rfl⟩:=q; exact yN (ihE Γ o) (ihE Γ lo)
  | none=>exact gC (ihE Γ o) (ihE Γ _)
 | List es p=>exact bU (qH (ihE Γ) es)
 | Tuple es j p=>exact fV (qH (ihE Γ) es)
 | Dict ks vs p=>exact SE.optE fun xs hx=>iU (ihE Γ) hx
 | ListComp elt gs sc p=>exact rJa ε.g ihE ihT elt gs sc
 | _=>exact SE.dead
theorem eFa {e:Expr} {t:IE} (h:SE D n cf Γ e t) (hp:∀ penv:PySem.Env,PySem.isTrue e penv (eval e penv) = (do let v ← eval e penv; standAt e.pos; holding [v] (truthy v))):ST D n cf Γ e (.val t):=fK h fun _ _ _ _ _ k=>isTrue_plain k (hp _)
theorem jXa {a b:Expr} {op:CmpOp} {p:Pos} {t:IE} (h:behindInMarks op b = false→SE D n cf Γ (.Compare a [op] [b] p) t) (hd:behindInMarks op b = true→t = .dead):ST D n cf Γ (.Compare a [op] [b] p) (.val t):=by
 cases hm:behindInMarks op b with
 | true=>rw [hd hm]; exact ST.dead
 | false =>
  refine fK (h hm) fun A s penv Q E k Γ' p hΓ=>?_
  have q:=k Γ' p hΓ
  simp only [eval_Compare1,isTrue_Compare1,markedBehindIn_of_false hm,Sem.wp_bind',Sem.wp_holding,Sem.wp_cmd_standAt,Sem.wp_operate] at q ⊢
  exact Sem.wp_mono _ Γ' _ (fun a p₁ s₁ h₁=>Sem.wp_mono _ Γ' _ (fun b _ s₂ h₂=>Sem.wp_mono _ Γ' _ (fun c p₃ s₃ h₃=>h₃ Γ' p₃ hΓ) (fun _ _ _ h'=>h') _ _ h₂) (fun _ _ _ h'=>h') _ _ h₁) (fun _ _ _ h'=>h') _ _ q
theorem pLa (ihE:∀ Γ e,SE D n cf Γ e (r.e Γ e)) (ihT:∀ Γ e,ST D n cf Γ e (r.t Γ e)) (hd:∀ Γ a op b p,behindInMarks op b = true→r.e Γ (.Compare a [op] [b] p) = .dead) (h2:∀ Γ a ops bs p,(ops.length = 1∧bs.length = 1) ∨ r.e Γ (.Compare a ops bs p) = .dead) (Γ:Sc) (e:Expr):ST D n cf Γ e (stepT r Γ e):=by
 cases e with
 | UnaryOp op a p=>cases op with
  | Not=>exact wJa (ihT Γ a)
  | _=>exact eFa (ihE Γ _) fun _=>rfl
 | BoolOp op es p=>match es,op with
  | [a,b],.And=>exact jN (ihT Γ a) (ihT Γ b)
  | [a,b],.Or=>exact yR (ihT Γ a) (ihT Γ b)
  | a :: b :: c :: es,.And=>exact uLa (ihT Γ a) (ihT Γ _)
  | a :: b :: c :: es,.Or=>exact ST.dead
  | [],_=>exact ST.dead
  | [_],_=>exact ST.dead
 | IfExp t a b p=>exact ST.dead
 | Compare a ops bs p =>
  clear ihT; rcases h2 Γ a ops bs p with ⟨q1,q2⟩ | q
  ·match ops,bs,q1,q2 with
   | [op],[b],_,_=>exact jXa (fun _=>ihE Γ _) (hd Γ a op b p)
  ·show ST D n cf Γ _ (.val (r.e Γ _))
   rw [q]; exact ST.dead
 | _=>exact eFa (ihE Γ _) fun _=>rfl
theorem pP (ε:mG D cf n):∀ k,(∀ Γ e,SE D n cf Γ e ((trK k).e Γ e))∧(∀ Γ e,ST D n cf Γ e ((trK k).t Γ e))
 | 0=>⟨fun _ _=>SE.dead,fun _ _=>ST.dead⟩
 | k + 1=>by
  obtain ⟨h1,h2⟩:=pP ε k
  refine ⟨nXa ε h1 h2,pLa h1 h2 (fun Γ a op b p h=>?_) fun Γ a ops bs p=>?_⟩
  ·clear h2 h1; cases k with
   | zero=>rfl
   | succ k =>
    show iffE (!behindInMarks op b) _ = _
    rw [h]; rfl
  ·match ops,bs with
   | [_],[_]=>exact .inl ⟨rfl,rfl⟩
   | [],_=>right; cases k <;> rfl
   | _ :: _ :: _,_=>right; cases k <;> rfl
   | [_],[]=>right; cases k <;> rfl
   | [_],_ :: _ :: _=>right; cases k <;> rfl
end Mine
end
section
open PySem PySem.W PyProof.Rows PySem.Calls
namespace Mine
theorem nJa {M:Model} {A:Around} {E:Value→Shared→Prop} {s:Shared} {a b:Value} {Q:Value→Shared→Prop} (ha:s.TypeIs a "list") (hb:s.TypeIs b "list")
  (hc:wpAny M A (call (.builtin "list.__iadd__") [a,b]) Q E s):wpAny M A (inplaceOp .Add a b) Q E s:=by
 unfold inplaceOp
 refine wpAny_holding ?_
 have hfi:fillsInplaceSlot (.type "list") "add" (Operator.Add == .Add) = pure false:=by
  unfold fillsInplaceSlot
  show (typeLookup (.type "list") (dunderI "add") >>= fun fi=>pure (fi.isSome && !isSeqSlot fi)) = pure false
  rw [PySem.F.slot_list_iadd.lookup]
  rfl
 refine wpAny_bind (wpAny_typeOf ha (wpAny_bind (wpAny_of_eq hfi ?_)))
 show wpAny M A (if false = true then _ else _) Q E s
 rw [if_neg Bool.false_ne_true]
 refine wpAny_bind (wpAny_binaryOp1_none (nm:="add") ha hb PySem.noFill_list_add ?_)
 refine wpAny_bind (wpAny_of_eq (PySem.seqSlot_of PySem.F.slot_list_iadd.lookup (by decide +kernel)) ?_)
 exact wpAny_bind (wpAny_rule hc)
inductive FlR (ρ:Rho):Fl→Flow→Prop where
 | next:FlR ρ .next .next
 | cont:FlR ρ .cont .cont
 | ret {v rv}:VR ρ v rv→FlR ρ (.ret v) (.ret rv)
variable {D:Wd} {n:Nat} {Γ:Sc} {cf:aU} {z:Z D n Γ} {σ:Sg} {H H1 H2 H':Heap} {E:Value→Shared→Prop} {r:Tr} {pos:Pos} {v:V}
noncomputable abbrev Z.at (z:Z D n Γ) (m:PySem.Str→Option Value) (env:Mine.Env):Z D n Γ:={ z with m:=m,env:=env }
noncomputable abbrev KS (z:Z D n Γ) (σ:Sg) (x:Fl × Mine.Env) (H':Heap) (Q:Flow→Shared→Prop):Prop:=∀ σ' m fl,Ok (z.at m x.2) σ' H'→aQ σ.ρ σ'.ρ→FlR σ'.ρ x.1 fl→Q fl σ'.s
noncomputable def SS (D:Wd) (n:Nat) (cf:aU) (Γ:Sc) (st:Stmt) (t:IS):Prop :=
 ∀ (z:Z D n Γ) σ H H' x,Ok z σ H→fD cf t z.env H = some (x,H')→∀ Q E,KS z σ x H' Q→wpAny (model D.prog D.w) z.A (exec st z.penv) Q E σ.s
noncomputable def SSs (D:Wd) (n:Nat) (cf:aU) (Γ:Sc) (ss:List Stmt) (ts:ISs):Prop :=
 ∀ (z:Z D n Γ) σ H H' x,Ok z σ H→aJ cf ts z.env H = some (x,H')→∀ Q E,KS z σ x H' Q→wpAny (model D.prog D.w) z.A (execs ss z.penv) Q E σ.s
theorem SS.dead {st:Stmt}:SS D n cf Γ st Mine.dead:=fun z σ H H' x o ev Q E k=>by cases ev
theorem qR {x:PySem.Str} {i:Nat} (h:Γ.own x = some i):Γ.inner = none∧Γ.kind x = some .local∧idx x Γ.slots = some i∧Γ.loc x = some i:=by
 obtain ⟨h1,h2⟩:=bD h
 obtain ⟨h3,h4⟩:=Bool.and_eq_true_iff.mp h1
 have h4:=Option.isNone_iff_eq_none.mp h4
 have h3:=iI h3
 refine ⟨h4,h3,h2,?_⟩
 unfold Sc.loc
 rw [h3,h4]
 exact h2
theorem wA (hin:Γ.inner = none) {x:PySem.Str} {i:Nat} (h:Γ.loc x = some i):idx x Γ.slots = some i:=by
 unfold Sc.loc at h
 rw [hin] at h
 clear hin; cases q:Γ.kind x with
 | none=>rw [q] at h; exact nos h
 | some k =>
  rw [q] at h
  clear q; cases k <;> first | exact h | exact nos h
theorem vEa {x:PySem.Str} {i:Nat} {l:List PySem.Str} (h:idx x l = some i):i < l.length:=(List.getElem?_eq_some_iff.mp (jU h)).1
theorem Ok.set (o:Ok z σ H) {x:PySem.Str} {i:Nat} (hx:Γ.own x = some i) {rv:Value} (hv:VR σ.ρ v rv) {h':Real} {tk:Nat} (hn:h'.Ns z.c.L (fun y=>if y = x then some rv else z.m y)) (hs:Heap.SameBut z.c.L σ.s.heap h') :
  Ok (z.at (fun y=>if y = x then some rv else z.m y) (bB i v z.env)) ⟨{ σ.s with heap:=h',toks:=tk },σ.ρ⟩ H where
 st:=by
  have S:=o.st
  refine ⟨S.fr.set hn hs,S.sim.carry (fun a ha o eo=>(hs.2 a ?_).trans eo) fun a ha=>?_⟩
  ·clear eo hs hn; rcases List.mem_append.mp ha with ha | ha
   ·exact (S.sim.fresh a ha).2.1
   ·obtain ⟨y,hy,rfl⟩:=List.mem_map.mp ha
    exact (S.sim.priv y hy).2.1
  ·clear hs hn; rcases List.mem_append.mp ha with ha | ha
   ·exact ⟨(S.sim.fresh a ha).2.1,(S.sim.fresh a ha).2.2.1⟩
   ·obtain ⟨y,hy,rfl⟩:=List.mem_map.mp ha
    exact ⟨(S.sim.priv y hy).2.1,(S.sim.priv y hy).2.2.1⟩
 rst:=o.rst.to _ _
 sub:=o.sub
 ln:=fun h=>by show _ ≤ (bB i v z.env).length; unfold bB; rw [List.length_set]; exact o.ln h
 rd:=fun y j hl u hu=>by
  obtain ⟨hin,hk,hi,_⟩:=qR hx
  have hj:=wA hin hl
  clear hs hn hx; rcases zK hu with ⟨rfl,rfl⟩ | ⟨hne,hu⟩
  ·have e:=jU hj
   rw [jU hi] at e
   cases e
   exact ⟨rv,.loc (z.pk.lo hin) (z.pk.lk _ hk) (if_pos rfl),hv⟩
  ·have hxy:y ≠ x:=fun q=>hne (by subst q; rw [hi] at hj; exact (Option.some.inj hj).symm)
   obtain ⟨ru,r,q⟩:=o.rd y j hl u hu
   refine ⟨ru,?_,q⟩
   clear q hu hne hj hi hk hin hl hv o; cases r with
   | loc a b d=>exact .loc a b ((if_neg hxy).trans d)
   | cell a b d f=>exact .cell a b d f
   | inn a b d f=>exact .inn a b d f
theorem Ok.store (o:Ok z σ H) {x:PySem.Str} {i:Nat} (hx:Γ.own x = some i) {rv:Value} (hv:VR σ.ρ v rv) {Q:Unit→Shared→Prop}
  (k:∀ h' tk m',Ok (z.at m' (bB i v z.env)) ⟨{ σ.s with heap:=h',toks:=tk },σ.ρ⟩ H→Heap.SameBut z.c.L σ.s.heap h'→Q () { σ.s with heap:=h',toks:=tk }):wpAny (model D.prog D.w) z.A (storeName z.penv x rv) Q E σ.s:=by
 obtain ⟨hin,hk,_,_⟩:=qR hx
 have hl:=z.pk.lo hin
 refine wpAny_storeName_local (z.pk.lk _ hk) (by rw [hl]; exact o.st.fr.ns) (fun h' hn hs=>?_) (by rw [z.pk.kind]; rfl)
 rw [hl] at hn hs
 exact k h' _ _ (o.set hx hv hn hs) hs
theorem bZa {x:PySem.Str} {xs:List PySem.Str} {is:List Nat} (h:nT Γ (x :: xs) = some is):∃ i js,is = i :: js∧Γ.own x = some i∧nT Γ xs = some js:=by
 obtain ⟨i,e1,h1⟩:=bind_eq (show (Γ.own x).bind _ = some is from h)
 clear h; obtain ⟨js,e2,rfl⟩:=map_eq h1
 exact ⟨i,js,rfl,e1,e2⟩
theorem Ok.stores:∀ {es:List Expr} {xs:List PySem.Str} {is:List Nat} {vs:List V} {rvs:List Value} {z:Z D n Γ} {σ:Sg} {env1:Mine.Env} {Q:Unit→Shared→Prop},namesOf es = some xs→nT Γ xs = some is→Ok z σ H→VRs σ.ρ vs rvs→jA is vs z.env = some env1 →
  (∀ h' tk m',Ok (z.at m' env1) ⟨{ σ.s with heap:=h',toks:=tk },σ.ρ⟩ H→Q () { σ.s with heap:=h',toks:=tk })→wpAny (model D.prog D.w) z.A (assignInOrder ((assignEach es z.penv).map (·.2)) rvs) Q E σ.s
 | [],xs,is,vs,rvs,z,σ,env1,Q,hN,hS,o,R,hs,k=>by
  cases hN; first | exact nos hS | exact nof hS | cases hS
  obtain ⟨rfl,rfl⟩:=bEa hs
  cases R
  exact wpAny_pure (k σ.s.heap σ.s.toks z.m (o.to (h':=σ.s.heap) o.st (aQ.refl _)))
 | e :: es,xs,is,vs,rvs,z,σ,env1,Q,hN,hS,o,R,hs,k=>by
  obtain ⟨x,p,r,rfl,rfl,hN'⟩:=wM hN
  clear hN; obtain ⟨i,js,rfl,hx,hS'⟩:=bZa hS
  clear hS; obtain ⟨v,us,rfl,hs'⟩:=yI hs
  clear hs; cases R with
  | cons hv R =>
   refine assignInOrder_cons (wpAny_assign_Name (o.store hx hv fun h1 tk1 m1 o1 _=>?_))
   exact Ok.stores (z:=z.at m1 (bB i v z.env)) (σ:=⟨{ σ.s with heap:=h1,toks:=tk1 },σ.ρ⟩) hN' hS' o1 R hs' fun h2 tk2 m2 o2=>k h2 tk2 m2 o2
noncomputable def vB (Γ:Sc) (u:Bool) (is:List Nat) (tgt:Expr):Prop:=(u = false∧∃ x px i,tgt = .Name x px∧is = [i]∧Γ.own x = some i) ∨ (u = true∧∃ es k px xs,tgt = .Tuple es k px∧namesOf es = some xs∧nT Γ xs = some is)
theorem Ok.bind (tg:vB Γ u is tgt) (o:Ok z σ H) {rv:Value} (hv:VR σ.ρ v rv) {env1:Mine.Env} (hb:dX is u v z.env H = some env1) {Q:Unit→Shared→Prop}
  (k:∀ h' tk m',Ok (z.at m' env1) ⟨{ σ.s with heap:=h',toks:=tk },σ.ρ⟩ H→Q () { σ.s with heap:=h',toks:=tk }):wpAny (model D.prog D.w) z.A (assign tgt z.penv rv) Q E σ.s:=by
 rcases tg with ⟨rfl,x,px,i,rfl,rfl,hx⟩ | ⟨rfl,es,kk,px,xs,rfl,hN,hS⟩
 ·have hb':some (bB i v z.env) = some env1:=hb
  cases hb'
  exact wpAny_assign_Name (o.store hx hv fun h1 tk1 m1 o1 _=>k h1 tk1 m1 o1)
 ·obtain ⟨vs,e1,e2⟩:=bind_eq hb
  obtain ⟨b,rvs,n,rfl,g,vr⟩:=o.st.tup hv e1
  have hlen:=vr.length
  have hl2:=(qQ e2).1
  have hl3:xs.length = is.length:=by
   clear hN hb e2 hl2 o k hv e1 g vr hlen
   induction xs generalizing is with
   | nil=>cases hS; rfl
   | cons x xs ih=>obtain ⟨i,js,rfl,_,h⟩:=bZa hS; simp [ih h]
  obtain ⟨n1,n2⟩:=aJa hN z.penv
  refine wpAny_assign_Tuple z.ar.hd (items:=rvs.toArray) ⟨_,g,rfl,_,rfl⟩ (by rw [n1,List.size_toArray]; exact Nat.le_antisymm (lin [_,_,_,_] .x .y [(.x,.z),(.z,.w),(.w,.y)] rfl (Nat.le_of_eq hl3) (Nat.le_of_eq hl2) (Nat.le_of_eq hlen.symm)) (lin [_,_,_,_] .x .y [(.x,.z),(.z,.w),(.w,.y)] rfl (Nat.le_of_eq hlen) (Nat.le_of_eq hl2.symm) (Nat.le_of_eq hl3.symm))) n2 fun h' he=>?_
  exact Ok.stores (σ:=⟨{ σ.s with heap:=h' },σ.ρ⟩) hN hS (o.to (h':=h') (o.st.kept he) (aQ.refl _)) vr e2 fun h1 tk1 m1 o1=>k h1 tk1 m1 o1
end Mine
end
section
open PySem PySem.W PyProof.Rows PySem.Calls
namespace Mine
variable {D:Wd} {n:Nat} {Γ:Sc} {cf:aU} {z:Z D n Γ} {σ:Sg} {H H1 H2 H':Heap} {E:Value→Shared→Prop} {r:Tr} {pos:Pos} {v:V} {u:Bool} {is:List Nat} {tgt:Expr} {x:Fl × Mine.Env} {Q:Flow→Shared→Prop}
theorem fOa {c:Act D} {A:Around} {m:PySem.Str→Option Value} {s:Shared} {ρ:Rho} {X:List (Addr × Obj)} (S:St c m s.heap ρ H X) {old v r:V} {ro rv:Value} (ho:VR ρ old ro) (hv:VR ρ v rv) (e:gH old v H = some (r,H')) {Q:Value→Shared→Prop} (k:cG c m s ρ X r H' Q) :
  wpAny (model D.prog D.w) A (inplaceOp .Add ro rv) Q E s:=by
 cases old with
 | int a =>
  obtain ⟨b,eb,h1⟩:=map_eq e
  cases h1
  cases iZ eb
  cases ho; first | exact nos hv | exact nof hv | cases hv
  exact wpAny_iadd_int (k s.heap _ ρ _ S (aQ.refl _) (.int _ _))
 | ref a =>
  refine cps fun G_ g_=>?_
  obtain ⟨us,e1,h1⟩:=bind_eq e
  obtain ⟨b,eb,h2⟩:=bind_eq h1
  obtain ⟨vs,e2,h3⟩:=bind_eq h2
  obtain ⟨hb,h4⟩:=bD h3
  refine g_ ?_
  clear g_
  have hb:=of_decide_eq_true hb
  clear h3 h2 h1; cases h4
  cases iD eb
  have e1:=kY e1
  refine cps fun G_ g_=>?_
  clear eb; obtain ⟨l,as,rfl,q1,o1⟩:=S.look ho e1
  obtain ⟨l2,as2,rfl,q2,o2⟩:=S.look hv (kY e2)
  refine g_ ?_
  clear g_
  clear hv q2 e2; cases o1 with
  | @list _ rvs n g vr ll =>
  clear ll; cases o2 with
  | @list _ rvs2 n2 g2 vr2 ll2 =>
  have hl1:=vr.length
  have hl2:=vr2.length
  have hsz:rvs.toArray.size + rvs2.toArray.size ≤ sizeLine:=by simp only [List.size_toArray]; exact iR (by exact lin [_,_,_,_] (.a .x .y) (.n 2000) [(.x,.z),(.y,.w),(.a .z .w,.n 1000)] rfl (Nat.le_of_eq hl1) (Nat.le_of_eq hl2) hb.1)
  refine nJa ⟨_,g,rfl⟩ ⟨_,g2,rfl⟩ (call_meets PySem.F.slot_list_iadd ⟨_,g,rfl⟩ PySem.F.entry_list_iadd (PySem.F.args_list_iadd_2 _ _) (AutoSeq1.list___iadd___list_list_0 l rvs.toArray n l2 rvs2.toArray n2 (extend_door hsz) (Nat.le_trans (Nat.le_add_right _ _) hsz) (Nat.le_trans hsz (Nat.le_succ _))) ⟨g,g2,?_⟩)
  have e':rvs.toArray ++ rvs2.toArray = (rvs ++ rvs2).toArray:=by simp
  have ho':(s.heap.update l (Obj.mapSeq fun x=>x ++ rvs2.toArray)).get? l = some (cL (rvs ++ rvs2) (if (rvs.toArray ++ rvs2.toArray).size == rvs.toArray.size then n else n + 1)):=by
   rw [Heap.get?_update_self _ g (by rw [mapSeq_app]; rfl),mapSeq_app,e']
  refine k _ s.toks ρ _ (S.turn e1 (fun vs q=>by cases q) q1 (.head _) (Heap.SameBut.update ..) ⟨_,ho'⟩ (.list ho' (vr.append vr2) (by rw [List.length_append]; exact lin [_,_] (.a .x .y) (.n 2000) [(.a .x .y,.n 1000)] rfl hb.1))) (aQ.refl _) ho
 | _=>first | exact nos e | exact nof e | cases e
noncomputable abbrev RS (D:Wd) (A:Around) (penv:PySem.Env) (E:Value→Shared→Prop) (Q:Flow→Shared→Prop):Result→Shared→Prop:=fun r s'=>match r with | .ok f=>Q f s' | .error e=>cameBackBy (model D.prog D.w) A penv E e s'
structure FL (z:Z D n Γ) (ρ:Rho) (it:It) (P:Nat→Obj→Rho→Prop) (step:V→Mine.Env→Heap→ExR) (x:Fl × Mine.Env) (H':Heap) (I:Addr) (i:Nat) (m:PySem.Str→Option Value) (env:Mine.Env) (σ:Sg) (Hc:Heap) (ob:Obj):Prop where
 ok:Ok ((z.at m env).on [(I,ob)]) σ Hc
 p:P i ob σ.ρ
 g:aQ ρ σ.ρ
 run:gQ it step (it.items.drop i) env Hc = some (x,H')
 le:i ≤ it.items.length
noncomputable abbrev uT (cf:aU) (is:List Nat) (u:Bool) (b:ISs):V→Mine.Env→Heap→ExR:=lV (fun v env H=>dX is u v env H) (aJ cf b)
inductive FK (z:Z D n Γ) (ρ:Rho) (it:It) (P:Nat→Obj→Rho→Prop) (step:V→Mine.Env→Heap→ExR) (x:Fl × Mine.Env) (H':Heap) (I:Addr) (k:Nat) (s':Shared):Prop where
 | mk (i:Nat) (m:PySem.Str→Option Value) (env:Mine.Env) (σ:Sg) (Hc:Heap) (ob:Obj):s' = σ.s→FL z ρ it P step x H' I i m env σ Hc ob→k = it.items.length - i→FK z ρ it P step x H' I k s'
theorem kYa (hs:∀ q ∈ z.C,q ∈ z.X) (tg:vB Γ u is tgt) {body:List Stmt} {b:ISs} (hB:SSs D n cf Γ body b) {I:Addr} {it:It} {P:Nat→Obj→Rho→Prop} (hI:Itr D z.A I it P) {ρ:Rho}
  (fin:∀ σ' m fl,Ok (z.at m x.2) σ' H'→aQ ρ σ'.ρ→FlR σ'.ρ x.1 fl→Q fl σ'.s) {Hc:Heap} {ob:Obj} (c0:FL z ρ it P (uT cf is u b) x H' I 0 z.m z.env σ Hc ob) :
  codeAny (model D.prog D.w) z.A (.forLoop tgt (.ref I) body [] z.penv) (RS D z.A z.penv E Q) σ.s:=by
 refine codeAny_forLoop_any (FK z ρ it P (uT cf is u b) x H' I) ?_ it.items.length (.mk 0 _ _ σ Hc ob rfl c0 rfl)
 clear c0
 rintro k s' ⟨i,m,env,σ,Hc,ob,rfl,⟨o,hP,g1,hrun,hle⟩,rfl⟩
 clear hle; cases hd:it.items.drop i with
 | nil =>
  rw [hd] at hrun
  obtain ⟨hok,e⟩:=bD hrun
  cases e
  exact hI.done hP o.st hok (List.getElem?_eq_none_iff.mpr (List.drop_eq_nil_iff.mp hd)) fun h2 tk2 S2=>wpAny_execs_nil (fin ⟨_,σ.ρ⟩ m _ (Ok.to (h':=h2) (tk':=tk2) (o.drop (z:=z.at m env) hs) S2 (aQ.refl _)) g1 .next)
 | cons v tl =>
  obtain ⟨hlt,hv,htl⟩:=dDa hd
  rw [hd] at hrun
  refine cps fun G_ g_=>?_
  obtain ⟨hok,e⟩:=bD hrun
  obtain ⟨y,H2,e1,e2⟩:=aW e
  obtain ⟨env2,Hb,eb0,e3⟩:=aW e1
  clear e1 hd hrun; obtain ⟨eb,rfl⟩:=iW eb0
  refine g_ ?_
  clear g_
  refine hI.next hP o.st hok hv fun h2 tk2 ob2 rv S2 hP2 hv2=>?_
  refine hI.lot (s:={ σ.s with heap:=h2,toks:=tk2 }) hP2 S2.behind.1 ?_
  have o2:Ok ((z.at m env).on [(I,ob2)]) ⟨{ σ.s with heap:=h2,toks:=tk2 },σ.ρ⟩ Hb:=⟨S2,o.rst.to _ _,fun q hq=>List.mem_append_right _ (hs q hq),o.rd,o.ln⟩
  refine o2.bind tg hv2 eb fun h3 tk3 m3 o3=>?_
  refine hB ((z.at m3 env2).on [(I,ob2)]) _ Hb H2 y o3 e3 _ _ fun σ4 m4 fl o4 g4 hf=>?_
  obtain ⟨yf,ye⟩:=y
  have next:∀ (e:gQ it (uT cf is u b) tl ye H2 = some (x,H')),∃ k' < it.items.length - i,FK z ρ it P (uT cf is u b) x H' I k' σ4.s:=fun e =>
   ⟨_,Nat.sub_lt_sub_left hlt (Nat.lt_succ_self i),.mk (i + 1) m4 ye σ4 H2 ob2 rfl ⟨o4,hI.grow hP2 g4,g1.trans g4,by rw [htl]; exact e,hlt⟩ rfl⟩
  clear e3 o3 o2 hv2 hP2 S2 eb eb0 e hok o htl hv hlt hP hI hB tg; cases hf with
  | next=>exact next e2
  | cont=>exact next e2
  | ret hr =>
   clear next; cases e2
   exact fin σ4 m4 _ (o4.drop (z:=z.at m4 ye) hs) (g1.trans g4) (.ret hr)
structure WL (z:Z D n Γ) (ρ:Rho) (test:Mine.Env→Heap→Option (Bool × Heap)) (body:Mine.Env→Heap→ExR) (x:Fl × Mine.Env) (H':Heap) (k:Nat) (m:PySem.Str→Option Value) (env:Mine.Env) (σ:Sg) (Hc:Heap):Prop where
 ok:Ok (z.at m env) σ Hc
 g:aQ ρ σ.ρ
 run:mJ test body k env Hc = some (x,H')
inductive WK (z:Z D n Γ) (ρ:Rho) (test:Mine.Env→Heap→Option (Bool × Heap)) (body:Mine.Env→Heap→ExR) (x:Fl × Mine.Env) (H':Heap) (k:Nat) (s':Shared):Prop where
 | mk (m:PySem.Str→Option Value) (env:Mine.Env) (σ:Sg) (Hc:Heap):s' = σ.s→WL z ρ test body x H' k m env σ Hc→WK z ρ test body x H' k s'
theorem rBa {test:Expr} {t:IT} {body:List Stmt} {b:ISs} (hT:ST D n cf Γ test t) (hB:SSs D n cf Γ body b) {ρ:Rho} (fin:∀ σ' m fl,Ok (z.at m x.2) σ' H'→aQ ρ σ'.ρ→FlR σ'.ρ x.1 fl→Q fl σ'.s)
  {Hc:Heap} {k0:Nat} (c0:WL z ρ (fun env H=>bZ cf env t H) (aJ cf b) x H' k0 z.m z.env σ Hc):codeAny (model D.prog D.w) z.A (.whileLoop test body [] z.penv) (RS D z.A z.penv E Q) σ.s:=by
 refine codeAny_whileLoop (WK z ρ (fun env H=>bZ cf env t H) (aJ cf b) x H') ?_ k0 (.mk _ _ σ Hc rfl c0)
 clear c0
 rintro k s' ⟨m,env,σ,Hc,rfl,⟨o,g1,hrun⟩⟩
 cases k with
 | zero=>first | exact nos hrun | exact nof hrun | cases hrun
 | succ k =>
  refine cps fun G_ g_=>?_
  obtain ⟨bb,H2,e1,e2⟩:=aW hrun
  refine g_ ?_
  clear g_
  refine hT (z.at m env) σ Hc H2 bb o e1 _ _ _ rfl fun σ2 o2 g2=>?_
  clear e1 hrun o hT; cases bb with
  | false =>
   cases e2
   exact wpAny_execs_nil (fin σ2 m _ o2 (g1.trans g2) .next)
  | true =>
   obtain ⟨y,H3,e3,e4⟩:=aW (show bnd (aJ cf b env H2) (fun x H2=>dY x H2 (mJ (fun env H=>bZ cf env t H) (aJ cf b) k)) = some (x,H') from e2)
   refine hB (z.at m env) σ2 H2 H3 y o2 e3 _ _ fun σ4 m4 fl o4 g4 hf=>?_
   obtain ⟨yf,ye⟩:=y
   clear e3 e2 o2 hB; cases hf with
   | next=>exact ⟨k,Nat.lt_succ_self _,.mk m4 ye σ4 H3 rfl ⟨o4,g1.trans (g2.trans g4),e4⟩⟩
   | cont=>exact ⟨k,Nat.lt_succ_self _,.mk m4 ye σ4 H3 rfl ⟨o4,g1.trans (g2.trans g4),e4⟩⟩
   | ret hr =>
    cases e4
    exact fin σ4 m4 _ o4 (g1.trans (g2.trans g4)) (.ret hr)
end Mine
end
section
open PySem PySem.W PyProof.Rows PySem.Calls
namespace Mine
variable {D:Wd} {n:Nat} {Γ:Sc} {cf:aU} {z:Z D n Γ} {σ:Sg} {H H1 H2 H':Heap} {E:Value→Shared→Prop} {r:Tr} {pos:Pos} {v:V} {u:Bool} {is:List Nat} {tgt:Expr} {x:Fl × Mine.Env} {Q:Flow→Shared→Prop}
theorem vO {e:Expr} (h:lC e = false) (t:Option Expr) (l:Nat) (env:PySem.Env):swapsWith e t l env = pure false:=by
 cases e <;> first | rfl | exact nos h | exact nof h | cases h
theorem jVa {y:PySem.Str} {py:Pos} {elt:Expr} {gs:List Comprehension} {sc:Scope} {pos spos:Pos} (z:Z D n Γ) {i:Nat} (hy:Γ.own y = some i) (h:rI y py (.ListComp elt gs sc pos) = true) :
  swapsWith (.ListComp elt gs sc pos) (some (.Name y py)) spos.line z.penv = pure true:=by
 have hk:z.penv.blockKind = .function:=by unfold Env.blockKind; rw [z.pk.kind]; rfl
 have h1:(py.line == pos.line && !(sc.names.any fun (n,k)=>n == y && (k == .local || k == .cell))) = true:=h
 show (pure (z.penv.blockKind == .function && z.penv.kindOf y == some .local && py.line == pos.line && !(sc.names.any fun (n,k)=>n == y && (k == .local || k == .cell))):Sem Bool) = pure true
 rw [hk,z.pk.lk _ (qR hy).2.1,Bool.and_assoc (_ && _),h1]
 rfl
section
variable {cf:aU} {env:Mine.Env} {H:Heap} {e o i':IE} {i k a t h:Nat} {tt:IT} {sa sb:ISs} {is:List Nat} {u:Bool} {ti:II} {s:IS}
theorem aMa:fD cf (.setl i e) env H = bnd (aH cf env e H) fun v H1=>some ((.next,bB i v env),H1):=rfl
theorem oUa:fD cf (.seta o k e) env H = bnd (aH cf env e H) fun v H1=>bnd (aH cf env o H1) fun ov H2=>(kI ov k v H2).map fun H3=>((.next,env),H3):=rfl
theorem oCa:fD cf (.seti o i' e) env H = bnd (aH cf env e H) fun v H1=>bnd (aH cf env o H1) fun ov H2=>bnd (aH cf env i' H2) fun iv H3=>(jP ov iv v H3).map fun H4=>((.next,env),H4):=rfl
theorem vRa:fD cf (.augl i e) env H = (env[i]?).join.bind fun old=>bnd (aH cf env e H) fun v H2=>bnd (gH old v H2) fun r H3=>some ((.next,bB i r env),H3):=rfl
theorem kSa:fD cf (.auga o k e) env H = bnd (aH cf env o H) fun ov H1=>(eO ov k H1).bind fun old=>bnd (aH cf env e H1) fun v H3=>bnd (gH old v H3) fun r H4=>(kI ov k r H4).map fun H5=>((.next,env),H5):=rfl
theorem vHa:fD cf (.expr e) env H = bnd (aH cf env e H) fun _ H1=>some ((.next,env),H1):=rfl
theorem rPa:fD cf (.ite tt sa sb) env H = bnd (bZ cf env tt H) fun c H1=>ifB c (aJ cf sa env H1) (aJ cf sb env H1):=rfl
theorem kCa:fD cf (.ret e) env H = bnd (aH cf env e H) fun v H1=>some ((.ret v,env),H1):=rfl
theorem vWa:fD cf (.for is u ti sa) env H = bnd (fJ cf env ti H) fun it H1=>gQ it (lV (fun v env H=>dX is u v env H) (aJ cf sa)) it.items env H1:=rfl
theorem mKa:fD cf (.dfind i a t h) env H = cD (qY i a t h env H) H:=rfl
theorem dXa:aJ cf (.cons s sa) env H = bnd (fD cf s env H) fun x H1=>match x.1 with
  | .next=>aJ cf sa x.2 H1
  | _=>some (x,H1):=rfl
end
theorem tQa {sc:Scope} {xs:List PySem.Str} {iter:Expr} {ti:II} {ifs:List Expr} {ts:ITs} {elt:Expr} {te:IE} (c:CO D n cf Γ sc xs is u tgt iter ti ifs ts elt te) {y:PySem.Str} {py spos:Pos} {i:Nat} (hy:Γ.own y = some i)
  (hsw:rI y py (.ListComp elt [⟨tgt,iter,ifs,0⟩] sc pos) = true):SS D n cf Γ (.Assign [.Name y py] (.ListComp elt [⟨tgt,iter,ifs,0⟩] sc pos) spos) (.setl i (.comp is u ti ts te)):=fun z σ H H' x o ev Q E kk=>by
 refine cps fun G_ g_=>?_
 obtain ⟨v,H0,e0,h0⟩:=aW (aMa.symm.trans ev)
 refine g_ ?_
 clear g_
 clear ev; cases h0
 refine cps fun G_ g_=>?_
 obtain ⟨it,H1,e1,h1⟩:=aW (show bnd (fJ cf z.env ti H) _ = some (v,_) from e0)
 obtain ⟨vs,H2,e2,h2⟩:=aW h1
 clear h1 e0; obtain ⟨hl,rfl,rfl⟩:=oU h2
 refine g_ ?_
 clear g_
 rw [exec_Assign_Name_used _ _ _ _ (jVa z hy hsw)]
 refine wpAny_bind (wpAny_standAt (wpAny_bind ?_))
 show wpAny _ z.A (do let _ ← comprehension (.ListComp elt [⟨tgt,iter,ifs,0⟩] sc pos) sc z.penv _ (newList []) false (eval iter z.penv) (some (assign (.Name y py) z.penv))) _ _ σ.s
 refine wpAny_bind (wpAny_mono (wpAny_comprehension_free (use:=some (assign (.Name y py) z.penv)) (Q:=fun _ s'=>Q .next s') rfl (aZa c.hit z.penv) (closed c z) c.ok.kind (fun y hy hl=>by rw [c.ok.look y hy,hl])
  (c.I z σ H H1 it o e1 _ _ fun σ1 I ob P hI hP o1 g1=>?_)) (fun _ s' hq=>wpAny_pure (wpAny_pure hq)) fun _ _ e=>e)
 refine eMa (RR:=fun acc C=>compPost (model D.prog D.w) z.A E (some (assign (.Name y py) z.penv)) (fun _ s'=>Q .next s') acc C) c o.sub hI hP o1 e2 hl fun σ2 Da C oC mC racc nD hd o2 hn hr g2=>?_
 obtain ⟨o3,hv⟩:=o2.reveal o.sub hd hr hl
 show wpAny _ z.A (assign (.Name y py) z.penv (.ref Da)) _ _ _
 refine wpAny_assign_Name (o3.store (z:=z.on [(C,oC)]) hy hv fun h3 tk3 m3 o4 hsb=>?_)
 refine ⟨mC,hn _ _ o4.st.behind.1,fun h4 hs4=>?_⟩
 exact kk ⟨{ σ2.s with heap:=h4,toks:=tk3 },_⟩ m3 .next (Ok.to (σ:=⟨{ σ2.s with heap:=h3,toks:=tk3 },_⟩) (h':=h4) (tk':=tk3) (Ok.drop (z:=z.at m3 _) o.sub o4) (o4.st.dropBut hs4.extBut) (aQ.refl _)) ((g1.trans g2).trans (aQ.app _ _)) .next
theorem lKa {prog:Program} {w:World} {k:PySem.Str} {v:Value} (h:(strKind prog w).is k v = true):∃ t,v = .str k t:=by
 cases v with
 | str x t =>
  have:x = k:=by
   have h':Value.isStrOf k (.str x t) = true:=h
   simpa [Value.isStrOf] using h'
  exact ⟨t,by rw [this]⟩
 | _=>first | exact nos h | exact nof h | cases h
structure DL (z:Z D n Γ) (T:Nat→Mine.Env→Heap→Prop) (d:Addr) (kvs:List (PySem.Str × Value)) (ep:Nat) (s:Shared) (ρ:Rho) (I:Addr) (ob:Obj) (j:Nat) (m:PySem.Str→Option Value) (env:Mine.Env) (σ:Sg) (Hc:Heap):Prop where
 ok:Ok ((z.at m env).on [(I,ob)]) σ Hc
 r:σ.ρ = ρ
 at_:σ.s.heap.DictAt (strKind D.prog D.w) d kvs ep
 t:T j env Hc
inductive DN (z:Z D n Γ) (T:Nat→Mine.Env→Heap→Prop) (d:Addr) (kvs:List (PySem.Str × Value)) (ep:Nat) (s:Shared) (ρ:Rho) (I:Addr) (ob:Obj) (j:Nat) (s3:Shared):Prop where
 | mk (m:PySem.Str→Option Value) (env:Mine.Env) (σ:Sg) (Hc:Heap):s3 = σ.s→DL z T d kvs ep s ρ I ob j m env σ Hc→DN z T d kvs ep s ρ I ob j s3
inductive DK (z:Z D n Γ) (T:Nat→Mine.Env→Heap→Prop) (d:Addr) (kvs:List (PySem.Str × Value)) (ep:Nat) (s:Shared) (ρ:Rho) (I:Addr) (l k:Nat) (s':Shared):Prop where
 | mk (j:Nat) (m:PySem.Str→Option Value) (env:Mine.Env) (σ:Sg) (Hc:Heap) (ob:Obj):s' = σ.s→DL z T d kvs ep s ρ I ob j m env σ Hc→ob.cls = .type "dict_keyiterator"→ob.data = .fields #[.ref d,.int (j:Nat) 0,.int kvs.length 0,.int ep 0]→j ≤ l→k = l - j→DK z T d kvs ep s ρ I l k s'
theorem iEa {i:Nat} {x:PySem.Str} {px:Pos} (hx:Γ.own x = some i) (o:Ok z σ H) {body:List Stmt} {aa:Nat} {d:Addr} {es:List (PySem.Str × V)} (T:Nat→Mine.Env→Heap→Prop) (hv:VR σ.ρ (.ref aa) (.ref d)) (e1:H[aa]? = some (.dict es)) (h0:T 0 z.env H)
  (turn:∀ kvs ep I ob j y v m env σ1 Hc,es[j]? = some (y,v)→Ok ((z.at m (bB i (.str y) env)).on [(I,ob)]) σ1 Hc→σ1.ρ = σ.ρ→σ1.s.heap.DictAt (strKind D.prog D.w) d kvs ep→T j env Hc →
   wpAny (model D.prog D.w) z.A (execs body z.penv) (fun f s3=>match f with
    | .next | .cont=>DN z T d kvs ep σ.s σ.ρ I ob (j + 1) s3
    | .brk=>False
    | .ret v=>Q (.ret v) s3) (notedBy (model D.prog D.w) z.A z.penv fun e s'=>RS D z.A z.penv E Q (.error e) s') σ1.s)
  (fin:∀ σ' m env Hc,T es.length env Hc→Ok (z.at m env) σ' Hc→σ'.ρ = σ.ρ→Q .next σ'.s) :
  wpAny (model D.prog D.w) z.A (pyIter (.ref d)) (fun it s₂=>codeAny (model D.prog D.w) z.A (.forLoop (.Name x px) it body [] z.penv) (RS D z.A z.penv E Q) s₂) E σ.s:=by
 refine cps fun G_ g_=>?_
 obtain ⟨b,as,hb,q1,o1⟩:=o.st.look hv e1
 refine g_ ?_
 clear g_
 clear e1; cases hb
 cases o1 with
 | @dict _ kvs dd p l =>
 obtain ⟨ep,hat⟩:=dd.dictAt
 have hlen:=p.length
 have hkeys:=p.keys
 refine wpAny_pyIter_dict (o.st.low q1) hat ?_
 have hown:d ∈ own σ.ρ:=eV q1 (.head _)
 have S0:=o.st.hide_push { cls:=.type "dict_keyiterator",data:=.fields #[.ref d,.int 0 0,.int kvs.length 0,.int ep 0] }
 have o0:Ok (z.on [(σ.s.heap.objs.size,{ cls:=.type "dict_keyiterator",data:=.fields #[.ref d,.int 0 0,.int kvs.length 0,.int ep 0] })]) ⟨{ σ.s with heap:=_,toks:=σ.s.toks },σ.ρ⟩ H:=⟨S0,o.rst.to _ _,fun q hq=>List.mem_append_right _ (o.sub q hq),o.rd,o.ln⟩
 generalize σ.s.heap.objs.size = I at *
 refine codeAny_forLoop_any (DK z T d kvs ep σ.s σ.ρ I es.length) ?_ es.length (.mk 0 z.m z.env _ H _ rfl ⟨o0,rfl,hat.push _,h0⟩ rfl rfl (Nat.zero_le _) rfl)
 rintro k s' ⟨j,m,env,σ1,Hc,ob,rfl,⟨o1,hr,hat1,hT⟩,hc,hd,hj,rfl⟩
 refine cps fun G_ g_=>?_
 obtain ⟨g0,gL,_,gI⟩:=o1.st.behind
 refine g_ ?_
 clear g_
 have hne:d ≠ I:=fun q=>gI (q ▸ List.mem_append_left _ (hr ▸ hown))
 have hdL:d ≠ z.c.L:=(o1.st.sim.fresh d (hr ▸ hown)).2.1
 have hit:σ1.s.heap.IsKeyIter I d j kvs.length ep:=⟨ob,g0,hc,hd⟩
 clear gI gL g0 hc o0 S0 hown hat l p q1 dd h0; cases hx1:kvs[j]? with
 | none =>
  have:es.length ≤ j:=by have:=List.getElem?_eq_none_iff.mp hx1; exact lin [_,_,_] .x .y [(.x,.z),(.z,.y)] rfl (Nat.le_of_eq hlen.symm) this
  have hj':j = es.length:=by exact Nat.le_antisymm (lin [_,_] .x .y [(.x,.y)] rfl hj) (lin [_,_] .x .y [(.x,.y)] rfl this)
  clear hj; subst hj'
  exact wpAny_pyNext_dict_end z.ar.hd hit hat1 hx1 fun h2 he=>wpAny_execs_nil (fin ⟨{ σ1.s with heap:=h2 },σ1.ρ⟩ m env Hc hT (Ok.to (h':=h2) (tk':=σ1.s.toks) (o1.drop (z:=z.at m env) o.sub) (o1.st.dropBut he) (aQ.refl _)) hr)
 | some kv =>
  obtain ⟨y,rv⟩:=kv
  have hlt:j < es.length:=by have:=(List.getElem?_eq_some_iff.mp hx1).1; exact lin [_,_,_] (.a .x (.n 1)) .y [(.a .x (.n 1),.z),(.z,.y)] rfl this (Nat.le_of_eq hlen)
  have hy:∃ v,es[j]? = some (y,v):=by
   have h1:(kvs.map (·.1))[j]? = some y:=by rw [List.getElem?_map,hx1]; rfl
   rw [hkeys,List.getElem?_map] at h1
   obtain ⟨z,hz,hzy⟩:=Option.map_eq_some_iff.mp h1
   exact ⟨z.2,by rw [hz,← hzy]⟩
  obtain ⟨v,hv⟩:=hy
  refine wpAny_pyNext_dict_item hit hat1 hx1 fun key h2 hk hit2 hs2=>?_
  clear hx1 hit hj hd hkeys hlen fin; obtain ⟨t,rfl⟩:=lKa hk
  obtain ⟨ob2,g2,hc2,hd2⟩:=hit2
  have S2:=o1.st.turnX hs2 g2
  have o2:Ok ((z.at m env).on [(I,ob2)]) ⟨{ σ1.s with heap:=h2,toks:=σ1.s.toks },σ1.ρ⟩ Hc:=⟨S2,o1.rst.to _ _,fun q hq=>List.mem_append_right _ (o.sub q hq),o1.rd,o1.ln⟩
  have hat2:h2.DictAt (strKind D.prog D.w) d kvs ep:=hat1.extBut hs2.extBut hne
  refine pA g2 hc2 hd2 (by decide) ?_
  refine wpAny_assign_Name (o2.store hx (.str y t) fun h3 tk3 m3 o3 hsb=>?_)
  have hat3:h3.DictAt (strKind D.prog D.w) d kvs ep:=hat2.extBut hsb.extBut hdL
  refine wpAny_mono (turn kvs ep I ob2 j y v m3 env _ Hc hv o3 hr hat3 hT) (fun f s4 h4=>?_) fun _ _ x=>x
  have next:DN z T d kvs ep σ.s σ.ρ I ob2 (j + 1) s4→∃ k' < es.length - j,DK z T d kvs ep σ.s σ.ρ I es.length k' s4 :=
   fun ⟨m,env,σ2,Hc,e,h⟩=>⟨_,Nat.sub_lt_sub_left hlt (Nat.lt_succ_self j),.mk (j + 1) m env σ2 Hc ob2 e h hc2 hd2 hlt rfl⟩
  clear hat3 hsb o3 hat2 o2 S2 hd2 hc2 g2 hk hs2 hv hlt hdL hne hT hat1 hr o1 turn o hx; cases f with
  | next=>exact next h4
  | cont=>exact next h4
  | brk=>exact h4.elim
  | ret v=>exact h4
end Mine
end
section
open PySem PySem.W PyProof.Rows PySem.Calls
namespace Mine
theorem gR {e:Expr} {x:PySem.Str} (h:nameOf e = some x):∃ p,e = .Name x p:=val_eq (a:=x) h
theorem fQa {f:CmpOp→Bool} {e:Expr} {q:Expr × CmpOp × Expr} (h:aDa f e = some q):(∃ p,e = .Compare q.1 [q.2.1] [q.2.2] p)∧f q.2.1 = true:=by
 obtain ⟨u,h1,h2⟩:=bind_eq h
 obtain ⟨h3,h4⟩:=bD h2
 clear h2 h; cases h4
 have h4:=val_eq h1
 exact ⟨h4,h3⟩
set_option tactic.hygienic true in
theorem vZa {e:Expr} (h:yX e = true):∃ k p,e = .Constant (.bool true) k p:=by
 unfold yX at h
 split at h
 ·rename_i c _
  obtain ⟨c,k,p,rfl⟩:=c
  have:c = .bool true:=by
   cases c with
   | bool b=>exact congrArg _ h
   | _=>first | exact nos h | exact nof h | cases h
  exact ⟨k,p,by rw [this]⟩
 ·first | exact nos h | exact nof h | cases h
theorem tWa {op:CmpOp} (h:isEq op = true):op = .Eq:=by cases op <;> first | rfl | exact nos h | exact nof h | cases h
theorem nTa {op:CmpOp} (h:isNotIn op = true):op = .NotIn:=by cases op <;> first | rfl | exact nos h | exact nof h | cases h
variable {D:Wd} {n:Nat} {Γ:Sc} {cf:aU} {z:Z D n Γ} {σ:Sg} {H H1 H2 H':Heap} {E:Value→Shared→Prop} {r:Tr} {pos:Pos} {v:V} {x:Fl × Mine.Env} {Q:Flow→Shared→Prop} {s t h:PySem.Str}
theorem qU {env:Mine.Env} {i j:Nat} (v:V) (h:i ≠ j):(bB i v env)[j]? = env[j]?:=by
 unfold bB; exact List.getElem?_set_ne h
theorem dIa {env:Mine.Env} {i:Nat} (v:V) (h:i < env.length):(bB i v env)[i]? = some (some v):=by
 unfold bB; exact List.getElem?_set_self h
theorem aCa {env:Mine.Env} {i:Nat} {v:V}:(bB i v env).length = env.length:=by unfold bB; exact List.length_set
theorem tC {env:Mine.Env} {H:Heap} {i:Nat} {p:Nat × List (PySem.Str × V)} (h:lG env H i = some p):(env[i]?).join = some (.ref p.1)∧H[p.1]? = some (.dict p.2):=by
 obtain ⟨v,e1,h1⟩:=bind_eq h
 obtain ⟨a,e2,h2⟩:=bind_eq h1
 clear h1 h; obtain ⟨es,e3,rfl⟩:=map_eq h2
 clear h2; cases iD e2
 exact ⟨e1,yE e3⟩
theorem uGa {es:List (PySem.Str × V)} (nd:(es.map (·.1)).Nodup) {j:Nat} {y:PySem.Str} {v:V} (h:es[j]? = some (y,v)):look y es = some v:=by
 induction es generalizing j with
 | nil=>first | exact nos h | exact nof h | cases h
 | cons p r ih =>
  obtain ⟨z,u⟩:=p
  rw [List.map_cons,List.nodup_cons] at nd
  cases j with
  | zero=>cases h; exact if_pos rfl
  | succ j =>
   have hm:y ∈ r.map (·.1):=List.mem_map.mpr ⟨_,List.mem_of_getElem? (by simpa using h),rfl⟩
   have:z ≠ y:=fun q=>nd.1 (q ▸ hm)
   rw [mH,if_neg this]
   exact ih nd.2 (by simpa using h)
theorem iWa {α:Type} {l:List α} {j:Nat} {a:α} (h:l[j]? = some a):l.drop j = a :: l.drop (j + 1):=by
 obtain ⟨hlt,e⟩:=List.getElem?_eq_some_iff.mp h
 rw [List.drop_eq_getElem_cons hlt,e]
end Mine
end
section
open PySem PySem.W PyProof.Rows PySem.Calls
namespace Mine
variable {D:Wd} {n:Nat} {Γ:Sc} {cf:aU} {z:Z D n Γ} {σ:Sg} {H H1 H2 H':Heap} {E:Value→Shared→Prop} {pos:Pos} {v:V} {x:Fl × Mine.Env} {Q:Flow→Shared→Prop}
theorem iG {x:PySem.Str} {i:Nat} (h:Γ.own x = some i):Γ.loc x = some i:=(qR h).2.2.2
theorem eCa (o:Ok z σ H) {x:PySem.Str} {i:Nat} (h:Γ.own x = some i):i < z.env.length:=by
 obtain ⟨a,_,b,_⟩:=qR h
 exact Nat.lt_of_lt_of_le (vEa b) (o.ln a)
structure TF (H0:Heap) (i a k g:Nat) (es:List (PySem.Str × V)) (aa hh0:Nat) (ob0:V) (kv:Int) (hs0:List (PySem.Str × V)) (fl:Fl × Mine.Env) (j:Nat) (env:Mine.Env) (Hc:Heap):Prop where
 h:Hc = H0
 l:i < env.length
 a:(env[a]?).join = some (.ref aa)
 k:(env[k]?).join = some ob0
 g:(env[g]?).join = some (.ref hh0)
 f:vN i kv hs0 (es.drop j) env = some fl
inductive TD (H0:Heap) (i a g:Nat) (es:List (PySem.Str × V)) (aa hh0:Nat) (hs0:List (PySem.Str × V)) (env0:Mine.Env) (j:Nat) (env:Mine.Env) (Hc:Heap):Prop where
 | mk (cur:List (PySem.Str × V)):Hc = H0.set hh0 (.dict cur)→cur.length + (es.length - j) ≤ 1000→i < env.length→(env[a]?).join = some (.ref aa)→(env[g]?).join = some (.ref hh0)→oZ (es.drop j) cur = oZ es hs0→nR i (es.drop j) env = nR i es env0→TD H0 i a g es aa hh0 hs0 env0 j env Hc
theorem nSa (hG:GOk D) {x sc tn hn:PySem.Str} {i a k g:Nat} {p1 p2 p3 p4 p5 p6 p7 p8 p9 p10 p11 p12 p13 p14 p15:Pos} (hx:Γ.own x = some i) (hs:Γ.own sc = some a) (ht:Γ.own tn = some k) (hh:Γ.own hn = some g) (hd:i ≠ a∧i ≠ k∧i ≠ g) :
  SS D n cf Γ (.For (.Name x p1) (.Name sc p2) [.If (.BoolOp .And [.Compare (.Subscript (.Name sc p3) (.Name x p4) p5) [.Eq] [.Attribute (.Name tn p6) (PySem.Str.ofString "number") p7] p8,.Compare (.Name x p9) [.NotIn] [.Name hn p10] p11] p12)
   [.Return (some (.Name x p13)) p14] [] p15] [] pos) (.dfind i a k g):=fun z σ H H' fl o ev Q E kk=>by
 refine cps fun G_ g_=>?_
 obtain ⟨ev,rfl⟩:=iW (mKa.symm.trans ev)
 obtain ⟨⟨aa,es⟩,q1,ev⟩:=bind_eq ev
 obtain ⟨ob0,q2,ev⟩:=bind_eq ev
 obtain ⟨⟨hh0,hs0⟩,q3,ev⟩:=bind_eq ev
 obtain ⟨nn,q4,ev⟩:=bind_eq ev
 obtain ⟨kv,q5,ev⟩:=bind_eq ev
 have q4:=q4.trans (congrArg some (iZ q5))
 refine g_ ?_
 clear g_
 obtain ⟨r1,r2⟩:=tC q1
 obtain ⟨r3,r4⟩:=tC q3
 have hlen:=eCa o hx
 refine wpAny_For (o.name (iG hs) r1 fun rd hrd=>?_)
 clear q5 q3 q1; obtain ⟨d,as,rfl,z1,oo⟩:=o.st.look hrd r2
 have nd:(es.map (·.1)).Nodup:=by
  clear z1; cases oo with
  | @dict _ kvs dd p l=>rw [← p.keys]; exact Mine.DictOf.nodup dd
 refine iEa hx o (TF H' i a k g es aa hh0 ob0 kv hs0 fl) hrd r2 ⟨rfl,hlen,r1,q2,r3,ev⟩ ?_ ?_
 ·rintro kvs ep I ob j y v m env1 σ1 Hc hj o1 hr hat ⟨rfl,t0,t1,t2,t3,t4⟩
  rw [iWa hj] at t4
  obtain ⟨jj,e1,t5⟩:=bind_eq t4
  have hv:=iZ e1
  have u1:((bB i (.str y) env1)[a]?).join = some (.ref aa):=by rw [qU _ hd.1]; exact t1
  have u2:((bB i (.str y) env1)[k]?).join = some ob0:=by rw [qU _ hd.2.1]; exact t2
  have u3:((bB i (.str y) env1)[g]?).join = some (.ref hh0):=by rw [qU _ hd.2.2]; exact t3
  have u0:((bB i (.str y) env1)[i]?).join = some (.str y):=by rw [dIa _ t0]; rfl
  have hsub:subV (.ref aa) (.str y) Hc = some (.int jj):=by
   show (iB Hc[aa]?).bind (fun es=>look y es) = _
   rw [show Hc[aa]? = some (.dict es) from r2]
   exact (uGa nd hj).trans (congrArg some hv)
  have on:∀ tk,Ok ((z.at m (bB i (.str y) env1)).on [(I,ob)]) ⟨{ σ1.s with toks:=tk },σ1.ρ⟩ Hc:=fun tk=>o1.to (h':=σ1.s.heap) (tk':=tk) o1.st (aQ.refl _)
  have next:∀ tk,¬ (jj = kv∧look y hs0 = .none)→DN z (TF Hc i a k g es aa hh0 ob0 kv hs0 fl) d kvs ep σ.s σ.ρ I ob (j + 1) { σ1.s with toks:=tk }:=fun tk hne=>by
   rw [if_neg hne] at t5
   exact .mk m _ _ Hc rfl ⟨on tk,hr,hat,rfl,by rw [aCa]; exact t0,u1,u2,u3,t5⟩
  refine wpAny_execs_cons (wpAny_If (isTrue_and (wpAny_isTrue_Compare1 (Subscript_ (o1.name (iG hs) u1 fun ra hra=>o1.name (iG hx) u0 fun rx hrx=>eBa o1.st hra hrx hsub fun ri tk1 hri=>?_)) rfl)))
  refine Attribute_any_ ((on tk1).name (iG ht) u2 fun ro hro=>?_) (by rw [arm_eval_Attribute,xV rfl])
  refine gVa (n:=0) (on tk1).st hG.toKOk hro (by decide) q4 fun rk tk2 hrk=>?_
  refine wG (b:=decide (jj = kv)) (on tk2).st z.ar.low hri hrk rfl fun tk3=>?_
  refine wpAny_truthy_bool ?_
  clear hrk hro hri hra hsub u2 u1 hv e1 oo r2 q4 ev t3 t2 t1 t0 hat hj nd hrd z1 hlen r3 r1 q2 hd ht hs hG; by_cases hk:jj = kv
  ·rw [decide_eq_true hk]
   refine isTrue_and (wpAny_isTrue_Compare1 ((on tk3).name (iG hx) u0 fun rx hrx=>(on tk3).name (iG hh) u3 fun rh hrh=>?_) rfl)
   refine wG (b:=!(look y hs0).isSome) (on tk3).st z.ar.low hrx hrh (by show ((eU _).bind fun a=>inS y Hc[a]?).map _ = _; simp only [eU,Option.bind_some,r4]; rfl) fun tk4=>?_
   refine wpAny_truthy_bool ?_
   clear hrh u3 r4 q4 ev hh; cases hl:look y hs0 with
   | none =>
    rw [if_pos ⟨hk,hl⟩] at t5
    clear ev; cases t5
    refine isTrue_and_nil ?_
    refine wpAny_execs_cons (wpAny_Return_some ((on tk4).name (iG hx) u0 fun rx hrx=>?_))
    exact kk ⟨{ σ1.s with toks:=tk4 },σ1.ρ⟩ m (.ret rx) (Ok.drop (z:=z.at m _) o.sub (on tk4)) (by rw [hr]; exact aQ.refl _) (.ret hrx)
   | some u =>
    exact wpAny_execs_nil (wpAny_execs_nil (next tk4 fun q=>by rw [hl] at q; cases q.2))
  ·rw [decide_eq_false hk]
   exact wpAny_execs_nil (wpAny_execs_nil (next tk3 fun q=>hk q.1))
 ·rintro σ' m env1 Hc ⟨rfl,_,_,_,_,t4⟩ o1 hr
  rw [List.drop_length] at t4
  clear oo r4 r2 q4 ev o l nd hrd z1 hlen r3 r1 q2 hd hh ht hs hx hG; cases t4
  exact kk σ' m .next o1 (by rw [hr]; exact aQ.refl _) .next
theorem set_dict {c:Act D} {A:Around} {m:PySem.Str→Option Value} {s:Shared} {ρ:Rho} {X:List (Addr × Obj)} {E:Value→Shared→Prop} (S:St c m s.heap ρ H X) {a:Nat} {es:List (PySem.Str × V)} {b:Addr} {as:List Addr} (q1:ρ[a]? = some (b,as)) (e1:H[a]? = some (.dict es)) {x:PySem.Str} {t:Tok} {v:V} {rv:Value} (hv:VR ρ v rv) (hl:es.length ≤ 1000) {Q:Unit→Shared→Prop}
  (k:∀ h' tk,St c m h' ρ (H.set a (.dict (put x v es))) X→Heap.SameBut b s.heap h'→Q () { s with heap:=h',toks:=tk }):wpAny (model D.prog D.w) A (setItem (.ref b) (.str x t) rv) Q E s:=by
 refine cps fun G_ g_=>?_
 obtain ⟨b',as',hb,q2,o1⟩:=S.look (VR.ref q1) e1
 refine g_ ?_
 clear g_
 cases hb
 rw [q1] at q2
 cases q2
 cases o1 with
 | @dict _ kvs d p l =>
 refine wpAny_setItem_pairs (jF _ _ _ _) d (fun h' d' hs=>k h' _ (S.turn e1 (fun vs h=>nomatch h) q1 (.head _) hs ?_ ?_) hs) (iR (by rw [p.length]; exact lin [_] .x (.n 2000) [(.x,.n 1000)] rfl hl))
 ·exact DictOf.here d'
 ·rw [vW _ _ (Mine.DictOf.nodup d)] at d'
  exact .dict d' (p.put hv x) (Nat.le_trans (jC _ _ _) (by exact lin [_] (.a .x (.n 1)) (.n 2000) [(.x,.n 1000)] rfl hl))
theorem pPa {x sc hn:PySem.Str} {i a g k6:Nat} {p1 p2 p3 p4 p5 p6 p7:Pos} (hx:Γ.own x = some i) (hs:Γ.own sc = some a) (hh:Γ.own hn = some g) (hd:i ≠ a∧i ≠ g) :
  SS D n cf Γ (.For (.Name x p1) (.Name sc p2) [.Assign [.Subscript (.Name hn p3) (.Name x p4) p5] (.Constant (.bool true) k6 p6) p7] [] pos) (.dall i a g):=fun z σ H H' fl o ev Q E kk=>by
 refine cps fun G_ g_=>?_
 obtain ⟨⟨aa,es⟩,q1,ev⟩:=bind_eq (show vA i a g z.env H = some (fl,H') from ev)
 obtain ⟨⟨hh0,hs0⟩,q3,ev⟩:=bind_eq ev
 obtain ⟨hb,ev⟩:=bD ev
 obtain ⟨hne,hle⟩:=of_decide_eq_true hb
 refine g_ ?_
 clear g_
 clear hb; cases ev
 obtain ⟨r1,r2⟩:=tC q1
 obtain ⟨r3,r4⟩:=tC q3
 have hlen:=eCa o hx
 have lt4:hh0 < H.length:=(List.getElem?_eq_some_iff.mp r4).1
 refine wpAny_For (o.name (iG hs) r1 fun rd hrd=>?_)
 refine cps fun G_ g_=>?_
 clear ev q3 q1 hs; obtain ⟨d,as,rfl,z1,oo⟩:=o.st.look hrd r2
 obtain ⟨rg,_,hrg⟩:=o.rd _ _ (iG hh) (.ref hh0) (by
  clear oo ev; cases q:z.env[g]? with
  | none=>rw [q] at r3; first | exact nos r3 | exact nof r3 | cases r3
  | some w=>rw [q] at r3; exact congrArg some r3)
 clear oo ev; obtain ⟨gg,as2,rfl,z2,o2⟩:=o.st.look hrg r4
 refine g_ ?_
 clear g_
 have hdg:d ≠ gg:=fun q=>by
  have:=zM o.st.sim.nd z1 z2 hne d (.head _)
  exact this (q ▸ .head _)
 refine iEa hx o (TD H i a g es aa hh0 hs0 z.env) hrd r2 (.mk hs0 (set_same r4).symm (Nat.le_trans (Nat.add_comm _ _ ▸ Nat.le_refl _) hle) hlen r1 r3 rfl rfl) ?_ ?_
 ·rintro kvs ep I ob j y v m env1 σ1 Hc hj o1 hr hat ⟨cur,rfl,t0,t1,t2,t3,t4,t5⟩
  have hlt:j < es.length:=(List.getElem?_eq_some_iff.mp hj).1
  rw [iWa hj] at t4 t5
  have u3:((bB i (.str y) env1)[g]?).join = some (.ref hh0):=by rw [qU _ hd.2]; exact t3
  have u0:((bB i (.str y) env1)[i]?).join = some (.str y):=by rw [dIa _ t1]; rfl
  have u2:((bB i (.str y) env1)[a]?).join = some (.ref aa):=by rw [qU _ hd.1]; exact t2
  refine wpAny_execs_cons (wpAny_Assign_Subscript (wpAny_Constant_bool (o1.name (iG hh) u3 fun ra hra=>o1.name (iG hx) u0 fun rx hrx=>?_)) (by rfl))
  clear u0 hj hrg o2 hrd z1 hlen r4 r3 r2 r1 ev hle hne o hd hh hx; cases hrx
  have hra':ra = .ref gg:=by
   rw [hr] at hra
   cases hra with | ref q=>rw [z2] at q; cases q; rfl
  clear hra; subst hra'
  have hg1:(H.set hh0 (.dict cur))[hh0]? = some (.dict cur):=List.getElem?_set_self lt4
  refine set_dict o1.st (by rw [hr]; exact z2) hg1 (.bool true) (by exact lin [_,_] .x (.n 1000) [(.a .x .y,.n 1000)] rfl t0) fun h2 tk2 S2 hsb=>wpAny_execs_nil ?_
  refine .mk m _ ⟨{ σ1.s with heap:=h2,toks:=tk2 },σ1.ρ⟩ _ rfl ⟨o1.to (h':=h2) (tk':=tk2) S2 (aQ.refl _),hr,hat.extBut hsb.extBut hdg,.mk (put y (.bool true) cur) (by rw [List.set_set]) ?_ (by rw [aCa]; exact t1) u2 u3 t4 t5⟩
  have:=jC y (.bool true) cur
  exact lin [_,_,_,_,_,_] (.a .x .y) (.n 1000) [(.x,.a .z (.n 1)),(.a .y (.a .w (.n 1)),.v 4),(.a .z (.v 5),.n 1000),(.v 4,.a (.v 5) .w)] rfl this (eN (lin [_,_] (.a .x (.n 1)) .y [(.a .x (.n 1),.y)] rfl hlt)) t0 (dK _ _)
 ·rintro σ' m env1 Hc ⟨cur,rfl,t0,t1,t2,t3,t4,t5⟩ o1 hr
  rw [List.drop_length] at t4 t5
  have q4:cur = oZ es hs0:=t4
  have q5:env1 = nR i es z.env:=t5
  clear t5 t4 t3 t2 t1 t0 hdg hrg o2 z2 hrd z1 lt4 hlen r4 r3 r2 r1 ev hle hne o hd hh hx; subst q4 q5
  exact kk σ' m .next o1 (by rw [hr]; exact aQ.refl _) .next
end Mine
end
section
open PySem PySem.W PyProof.Rows PySem.Calls
namespace Mine
variable {D:Wd} {n:Nat} {Γ:Sc} {cf:aU} {z:Z D n Γ} {σ:Sg} {H H1 H2 H':Heap} {E:Value→Shared→Prop} {r:Tr} {pos:Pos} {v:V} {x:Fl × Mine.Env} {Q:Flow→Shared→Prop}
theorem SS.iffS {b:Bool} {st:Stmt} {t:IS} (h:b = true→SS D n cf Γ st t):SS D n cf Γ st (Mine.iffS b t):=by
 cases b with
 | true=>exact h rfl
 | false=>exact SS.dead
theorem SS.optS {α:Type} {o:Option α} {st:Stmt} {f:α→IS} (h:∀ a,o = some a→SS D n cf Γ st (f a)):SS D n cf Γ st (Mine.optS o f):=by
 cases o with
 | none=>exact SS.dead
 | some a=>exact h a rfl
theorem nUa {env:PySem.Env} (h:env.scope.kind = .function):interactive env = false:=by
 unfold interactive
 simp [h]
theorem AR.set {c:Act D} {A:Around} {n:Nat} (a:AR c A n 3):A.units + 2 < cLine:=by have:=a.units; exact lin [_,_,_] (.a (.a .x (.n 2)) (.n 1)) .y [(.a (.a (.a .x (.m 40 .z)) (.m 30 (.n 3))) (.n 1),.y)] rfl this
theorem oZa {e:Expr} {o:Expr} {x:PySem.Str} {p:Pos} (l:Nat) (env:PySem.Env):swapsWith e (some (.Attribute o x p)) l env = pure false:=by
 cases e <;> rfl
theorem jAa {e:Expr} {o i:Expr} {p:Pos} (l:Nat) (env:PySem.Env):swapsWith e (some (.Subscript o i p)) l env = pure false:=by
 cases e <;> rfl
theorem bC {e:Expr} {te:IE} (h:SE D n cf Γ e te) {y:PySem.Str} {p:Pos} {i:Nat} (hy:Γ.own y = some i) (hc:lC e = false):SS D n cf Γ (.Assign [.Name y p] e pos) (.setl i te):=fun z σ H H' x o ev Q E kk=>by
 obtain ⟨v,H1,e1,h1⟩:=aW (aMa.symm.trans ev)
 clear ev; cases h1
 exact wpAny_Assign_Name (h z σ H _ v o e1 _ _ fun σ1 rv o1 g1 hv=>o1.store hy hv fun h2 tk2 m2 o2 _=>kk ⟨_,σ1.ρ⟩ m2 .next o2 g1 .next) (vO hc _ _ _)
theorem vFa (hG:GOk D) (ihE:∀ Γ e,SE D n cf Γ e (r.e Γ e)) (ihT:∀ Γ e,ST D n cf Γ e (r.t Γ e)) {e:Expr} {y:PySem.Str} {p:Pos} {i:Nat} (hy:Γ.own y = some i) (hs:rI y p e = true):SS D n cf Γ (.Assign [.Name y p] e pos) (.setl i (zU r Γ e)):=by
 have hs':=hs
 unfold rI at hs
 cases hv:hSa e with
 | none=>rw [hv] at hs; first | exact nos hs | exact nof hs | cases hs
 | some w =>
  refine cps fun G_ g_=>?_
  clear hs; obtain ⟨⟨elt,gs,sc,pc⟩,rfl⟩:=w
  refine g_ ?_
  clear g_
  clear hv
  have no:SS D n cf Γ (.Assign [.Name y p] (.ListComp elt gs sc pc) pos) (.setl i .dead):=fun z σ H H' x o ev Q E kk=>by cases (show none = some (x,H') from ev)
  show SS D n cf Γ _ (.setl i (rP r Γ elt gs sc))
  unfold rP
  cases aBa gs with
  | none=>exact no
  | some q =>
   obtain ⟨q,rfl,tg⟩:=q
   dsimp only
   unfold zQ
   cases hb:(sE Γ.names sc q.xs && lZ q.it && Γ.inner.isNone && decide (q.xs.length ≤ 4)) with
   | false=>exact no
   | true=>exact tQa (dQa hG ihE ihT tg hb) hy hs'
theorem cW (hG:GOk D) {e a:Expr} {te ta:IE} (h:SE D n cf Γ e te) (ha:SE D n cf Γ a ta) {y:PySem.Str} {p:Pos} {i:Nat} (hy:idx y atL = some i):SS D n cf Γ (.Assign [.Attribute a y p] e pos) (.seta ta i te):=fun z σ H H' x o ev Q E kk=>by
 refine cps fun G_ g_=>?_
 obtain ⟨v,H1,e1,h1⟩:=aW (oUa.symm.trans ev)
 obtain ⟨ov,H2,e2,h2⟩:=aW h1
 obtain ⟨H3,e3,h3⟩:=map_eq h2
 refine g_ ?_
 clear g_
 clear h2 h1 ev; cases h3
 refine plainObj_wpAny_Assign_Attribute (h z σ H H1 v o e1 _ _ fun σ1 rv o1 g1 hv=>ha z σ1 H1 H2 ov o1 e2 _ _ fun σ2 ro o2 g2 ho=>?_) (oZa _ _)
 rw [xU hy]
 exact fFa o2.st hG.toKOk ho (hv.grow g2) (nO hy) e3 fun h3 tk3 S3=>kk ⟨_,σ2.ρ⟩ z.m .next (o2.to (h':=h3) (tk':=tk3) S3 (aQ.refl _)) (g1.trans g2) .next
theorem lD {e a b:Expr} {te ta tb:IE} (h:SE D n cf Γ e te) (ha:SE D n cf Γ a ta) (hb:SE D n cf Γ b tb) {p:Pos}:SS D n cf Γ (.Assign [.Subscript a b p] e pos) (.seti ta tb te):=fun z σ H H' x o ev Q E kk=>by
 refine cps fun G_ g_=>?_
 obtain ⟨v,H1,e1,h1⟩:=aW (oCa.symm.trans ev)
 obtain ⟨ov,H2,e2,h2⟩:=aW h1
 obtain ⟨iv,H3,e3,h3⟩:=aW h2
 obtain ⟨H4,e4,h4⟩:=map_eq h3
 refine g_ ?_
 clear g_
 clear h3 h2 h1 ev; cases h4
 refine wpAny_Assign_Subscript (h z σ H H1 v o e1 _ _ fun σ1 rv o1 g1 hv=>ha z σ1 H1 H2 ov o1 e2 _ _ fun σ2 ro o2 g2 ho=>hb z σ2 H2 H3 iv o2 e3 _ _ fun σ3 ri o3 g3 hi=>?_) (jAa _ _)
 exact sQa o3.st z.ar.set (ho.grow g3) hi (hv.grow (g2.trans g3)) e4 fun h4 tk4 S4=>kk ⟨_,σ3.ρ⟩ z.m .next (o3.to (h':=h4) (tk':=tk4) S4 (aQ.refl _)) (g1.trans (g2.trans g3)) .next
theorem nP {e:Expr} {te:IE} (h:SE D n cf Γ e te) {y:PySem.Str} {p:Pos} {i:Nat} (hy:Γ.own y = some i):SS D n cf Γ (.AugAssign (.Name y p) .Add e pos) (.augl i te):=fun z σ H H' x o ev Q E kk=>by
 refine cps fun G_ g_=>?_
 obtain ⟨old,e0,h0⟩:=bind_eq (vRa.symm.trans ev)
 obtain ⟨v,H2,e2,h2⟩:=aW h0
 obtain ⟨r,H3,e3,h3⟩:=aW h2
 refine g_ ?_
 clear g_
 clear h2 h0 ev; cases h3
 obtain ⟨ro,rd,hr⟩:=o.rd _ _ (iG hy) old (by
  cases q:z.env[i]? with
  | none=>rw [q] at e0; first | exact nos e0 | exact nof e0 | cases e0
  | some w=>rw [q] at e0; exact congrArg some e0)
 refine wpAny_AugAssign_Name (wW o.st z.pk.kind (rd.more o.sub) (h z σ H H2 v o e2 _ _ fun σ1 rx o1 g1 hx=>fOa o1.st (hr.grow g1) hx e3 (o1.k fun σ2 rr o2 g2 hrr=>?_)))
 exact o2.store hy hrr fun h3 tk3 m3 o3 _=>kk ⟨_,σ2.ρ⟩ m3 .next o3 (g1.trans g2) .next
theorem yK (hG:GOk D) {e a:Expr} {te ta:IE} (h:SE D n cf Γ e te) (ha:SE D n cf Γ a ta) {y:PySem.Str} {p:Pos} {i:Nat} (hy:idx y atL = some i):SS D n cf Γ (.AugAssign (.Attribute a y p) .Add e pos) (.auga ta i te):=fun z σ H H' x o ev Q E kk=>by
 refine cps fun G_ g_=>?_
 obtain ⟨ov,H1,e1,h1⟩:=aW (kSa.symm.trans ev)
 obtain ⟨old,e2,h2⟩:=bind_eq h1
 obtain ⟨v,H3,e3,h3⟩:=aW h2
 obtain ⟨r,H4,e4,h4⟩:=aW h3
 obtain ⟨H5,e5,h5⟩:=map_eq h4
 refine g_ ?_
 clear g_
 clear h4 h3 h2 h1 ev; cases h5
 rw [xU hy]
 refine wpAny_AugAssign_AttributeAny (ha z σ H H1 ov o e1 _ _ fun σ1 ro o1 g1 ho=>cMa o1.st hG.toKOk ho (nO hy) e2 (o1.k fun σ2 rold o2 g2 hold=>h z σ2 H1 H3 v o2 e3 _ _ fun σ3 rv o3 g3 hv=>fOa o3.st (hold.grow g3) hv e4 (o3.k fun σ4 rr o4 g4 hr=>?_)))
 exact fFa o4.st hG.toKOk (ho.grow (g2.trans (g3.trans g4))) hr (nO hy) e5 fun h5 tk5 S5=>kk ⟨_,σ4.ρ⟩ z.m .next (o4.to (h':=h5) (tk':=tk5) S5 (aQ.refl _)) (g1.trans (g2.trans (g3.trans g4))) .next
theorem iK {e:Expr} {te:IE} (h:SE D n cf Γ e te) (hc:lC e = false):SS D n cf Γ (.Expr e pos) (.expr te):=fun z σ H H' x o ev Q E kk=>by
 obtain ⟨v,H1,e1,h1⟩:=aW (vHa.symm.trans ev)
 clear ev; cases h1
 exact wpAny_Expr_any (h z σ H _ v o e1 _ _ fun σ1 rv o1 g1 hv=>kk σ1 z.m .next o1 g1 .next) (nUa z.pk.kind) (vO hc _ _ _)
theorem cM {e:Expr} {te:IE} (h:SE D n cf Γ e te):SS D n cf Γ (.Return (some e) pos) (.ret te):=fun z σ H H' x o ev Q E kk=>by
 obtain ⟨v,H1,e1,h1⟩:=aW (kCa.symm.trans ev)
 clear ev; cases h1
 exact wpAny_Return_some (h z σ H _ v o e1 _ _ fun σ1 rv o1 g1 hv=>kk σ1 z.m (.ret rv) o1 g1 (.ret hv))
theorem fH {t:Expr} {a b:List Stmt} {tt:IT} {ta tb:ISs} (h:ST D n cf Γ t tt) (ha:SSs D n cf Γ a ta) (hb:SSs D n cf Γ b tb):SS D n cf Γ (.If t a b pos) (.ite tt ta tb):=fun z σ H H' x o ev Q E kk=>by
 refine cps fun G_ g_=>?_
 obtain ⟨c,H1,e1,h1⟩:=aW (rPa.symm.trans ev)
 refine g_ ?_
 clear g_
 refine wpAny_If (h z σ H H1 c o e1 _ _ _ rfl fun σ1 o1 g1=>?_)
 clear e1 ev o h; cases c with
 | true=>exact ha z σ1 H1 H' x o1 h1 _ _ fun σ2 m2 fl o2 g2 hf=>kk σ2 m2 fl o2 (g1.trans g2) hf
 | false=>exact hb z σ1 H1 H' x o1 h1 _ _ fun σ2 m2 fl o2 g2 hf=>kk σ2 m2 fl o2 (g1.trans g2) hf
theorem cY {it:Expr} {ti:II} (h:SI D n cf Γ it ti) {u:Bool} {is:List Nat} {tgt:Expr} (tg:vB Γ u is tgt) (hit:lZ it = true) {b:List Stmt} {tb:ISs} (hb:SSs D n cf Γ b tb):SS D n cf Γ (.For tgt it b [] pos) (.for is u ti tb):=fun z σ H H' x o ev Q E kk=>by
 obtain ⟨i,H1,e1,h1⟩:=aW (vWa.symm.trans ev)
 exact wpAny_For (h z σ H H1 i o e1 _ _ fun σ1 I ob P hI hP o1 g1=>kYa (ρ:=σ1.ρ) o.sub tg hb hI (fun σ2 m2 fl o2 g2 hf=>kk σ2 m2 fl o2 (g1.trans g2) hf) ⟨o1,hP,aQ.refl _,h1,Nat.zero_le _⟩) (aZa hit z.penv)
theorem sW {t:Expr} {tt:IT} (h:ST D n cf Γ t tt) {b:List Stmt} {tb:ISs} (hb:SSs D n cf Γ b tb):SS D n cf Γ (.While t b [] pos) (.while tt tb):=fun z σ H H' x o ev Q E kk=>by
 exact wpAny_While (rBa (ρ:=σ.ρ) h hb (fun σ2 m2 fl o2 g2 hf=>kk σ2 m2 fl o2 g2 hf) ⟨o,aQ.refl _,ev⟩)
theorem tB:SS D n cf Γ (.Continue pos) .cont:=fun z σ H H' x o ev Q E kk=>by
 cases (show some ((Fl.cont,z.env),H) = some (x,H') from ev)
 exact wpAny_Continue (kk σ z.m .cont o (aQ.refl _) .cont)
theorem cJa {f:Stmt→IS} (ih:∀ st,SS D n cf Γ st (f st)):∀ ss,SSs D n cf Γ ss (iV (ss.map f))
 | []=>fun z σ H H' x o ev Q E kk=>by
  have ev:some ((Fl.next,z.env),H) = some (x,H'):=ev
  cases ev
  exact wpAny_execs_nil (kk σ z.m .next o (aQ.refl _) .next)
 | st :: ss=>fun z σ H H' x o ev Q E kk=>by
  obtain ⟨y,H1,e1,h1⟩:=aW (dXa.symm.trans ev)
  refine wpAny_execs_cons (ih st z σ H H1 y o e1 _ _ fun σ1 m1 fl o1 g1 hf=>?_)
  obtain ⟨yf,ye⟩:=y
  clear e1 ev o; cases hf with
  | next=>exact cJa ih ss (z.at m1 ye) σ1 H1 H' x o1 h1 _ _ fun σ2 m2 fl o2 g2 hf=>kk σ2 m2 fl o2 (g1.trans g2) hf
  | cont=>cases h1; exact kk σ1 m1 _ o1 g1 .cont
  | ret hr=>cases h1; exact kk σ1 m1 _ o1 g1 (.ret hr)
end Mine
end
section
open PySem PySem.W PyProof.Rows PySem.Calls
namespace Mine
variable {D:Wd} {n:Nat} {Γ:Sc} {cf:aU}
theorem ne3 {i a k g:Nat} (h:(i != a && i != k && i != g) = true):i ≠ a∧i ≠ k∧i ≠ g:=by
 obtain ⟨h,h3⟩:=Bool.and_eq_true_iff.mp h
 obtain ⟨h1,h2⟩:=Bool.and_eq_true_iff.mp h
 exact ⟨bne_iff_ne.mp h1,bne_iff_ne.mp h2,bne_iff_ne.mp h3⟩
theorem ne2 {i a g:Nat} (h:(i != a && i != g) = true):i ≠ a∧i ≠ g:=by
 obtain ⟨h1,h2⟩:=Bool.and_eq_true_iff.mp h
 exact ⟨bne_iff_ne.mp h1,bne_iff_ne.mp h2⟩
theorem kGa {es:List Expr} {is:List Nat} (h:(namesOf es).bind (nT Γ) = some is) {k:Nat} {px:Pos}:vB Γ true is (.Tuple es k px):=by
 obtain ⟨xs,e1,e2⟩:=bind_eq h
 exact .inr ⟨rfl,es,k,px,xs,rfl,e1,e2⟩
theorem dC {α β:Type} {o:Option α} {f:α→Option β} {b:β} {G:Prop} (h:o.bind f = some b) (k:∀ a,o = some a→f a = some b→G):G:=let ⟨a,x,y⟩:=bind_eq h; k a x y
theorem pH {α γ β:Type} {o:Option (α × γ)} {f:α × γ→Option β} {b:β} {G:Prop} (h:o.bind f = some b) (k:∀ a c,o = some (a,c)→f (a,c) = some b→G):G:=let ⟨a,x,y⟩:=bind_eq h; k a.1 a.2 x y
theorem eEa {α γ δ β:Type} {o:Option (α × γ × δ)} {f:α × γ × δ→Option β} {b:β} {G:Prop} (h:o.bind f = some b) (k:∀ a c d,o = some (a,c,d)→f (a,c,d) = some b→G):G:=let ⟨a,x,y⟩:=bind_eq h; k a.1 a.2.1 a.2.2 x y
theorem uH {α:Type} {b:Bool} {x:Option α} {r:α} {G:Prop} (h:aP b x = some r) (k:b = true→x = some r→G):G:=let ⟨a,b⟩:=bD h; k a b
theorem qYa {a b c d e G:Prop} (h:a∧b∧c∧d∧e) (k:a→b→c→d→e→G):G:=let ⟨a,b,c,d,e⟩:=h; k a b c d e
theorem kNa (hG:GOk D) {t it:Expr} {b:List Stmt} {s:IS} {pos:Pos} (h:tR Γ t it b = some s):SS D n cf Γ (.For t it b [] pos) s:=by
 refine dC h ?_; clear h; intro x e1 h
 refine dC h ?_; clear h; intro sc e2 h
 refine pH h ?_; clear h; intro p pb e3 h
 refine pH h ?_; clear h; intro q q' e4 h
 refine eEa h ?_; clear h; intro u1 u2 u3 e5 h
 refine pH h ?_; clear h; intro v v' e6 h
 refine dC h ?_; clear h; intro sc' e7 h
 refine dC h ?_; clear h; intro x1 e8 h
 refine pH h ?_; clear h; intro w w' e9 h
 refine dC h ?_; clear h; intro tn e10 h
 refine eEa h ?_; clear h; intro u4 u5 u6 e11 h
 refine dC h ?_; clear h; intro x2 e12 h
 refine dC h ?_; clear h; intro hn e13 h
 refine dC h ?_; clear h; intro rv e14 h
 refine dC h ?_; clear h; intro x3 e15 h
 refine uH h ?_; clear h; intro hd h
 refine dC h ?_; clear h; intro i f1 h
 refine dC h ?_; clear h; intro a f2 h
 refine dC h ?_; clear h; intro k f3 h
 refine dC h ?_; clear h; intro g f4 h
 refine uH h ?_; clear h; intro hn' h
 refine qYa (of_decide_eq_true hd) ?_; clear hd; intro hw hsc h1 h2 h3
 replace hw:w' = PySem.Str.ofString "number":=hw
 replace h:=Option.some.inj h
 subst h hw hsc h1 h2 h3
 have n3:=ne3 hn'
 clear hn'
 obtain ⟨_,rfl⟩:=gR e15
 clear e15; obtain ⟨_,rfl⟩:=val_eq e14
 clear e14; obtain ⟨_,rfl⟩:=gR e13
 clear e13; obtain ⟨_,rfl⟩:=gR e12
 clear e12; obtain ⟨⟨_,rfl⟩,g6⟩:=fQa e11
 clear e11; obtain rfl:=nTa g6
 clear g6; obtain ⟨_,rfl⟩:=gR e10
 clear e10; obtain ⟨_,rfl⟩:=val_eq e9
 clear e9; obtain ⟨_,rfl⟩:=gR e8
 clear e8; obtain ⟨_,rfl⟩:=gR e7
 clear e7; obtain ⟨_,rfl⟩:=val_eq e6
 clear e6; obtain ⟨⟨_,rfl⟩,g5⟩:=fQa e5
 clear e5; obtain rfl:=tWa g5
 clear g5; obtain ⟨_,rfl⟩:=val_eq e4
 clear e4; obtain ⟨_,rfl⟩:=val_eq e3
 clear e3; obtain ⟨_,rfl⟩:=gR e2
 clear e2; obtain ⟨_,rfl⟩:=gR e1
 exact nSa hG f1 f2 f3 f4 n3
theorem nOa {t it:Expr} {b:List Stmt} {s:IS} {pos:Pos} (h:uQ Γ t it b = some s):SS D n cf Γ (.For t it b [] pos) s:=by
 refine dC h ?_; clear h; intro x e1 h
 refine dC h ?_; clear h; intro sc e2 h
 refine pH h ?_; clear h; intro p p' e3 h
 refine pH h ?_; clear h; intro q q' e4 h
 refine dC h ?_; clear h; intro hn e5 h
 refine dC h ?_; clear h; intro x1 e6 h
 refine uH h ?_; clear h; intro hd h
 refine dC h ?_; clear h; intro i f1 h
 refine dC h ?_; clear h; intro a f2 h
 refine dC h ?_; clear h; intro g f3 h
 refine uH h ?_; clear h; intro hn' h
 obtain ⟨hd,hc⟩:=Bool.and_eq_true_iff.mp hd
 obtain ⟨_,h1⟩:=of_decide_eq_true hd
 replace h:=Option.some.inj h
 clear hd; subst h h1
 have n2:=ne2 hn'
 clear hn'
 clear hd; obtain ⟨_,_,rfl⟩:=vZa hc
 clear hc; obtain ⟨_,rfl⟩:=gR e6
 clear e6; obtain ⟨_,rfl⟩:=gR e5
 clear e5; obtain ⟨_,rfl⟩:=val_eq e4
 clear e4; obtain ⟨_,rfl⟩:=val_eq e3
 clear e3; obtain ⟨_,rfl⟩:=gR e2
 clear e2; obtain ⟨_,rfl⟩:=gR e1
 exact pPa f1 f2 f3 n2
theorem qIa (ε:mG D cf n) (k:Nat) {s:Sc→Stmt→IS} (hs:∀ Γ st,SS D n cf Γ st (s Γ st)) (Γ:Sc) (st:Stmt):SS D n cf Γ st (hCa (trK (k + 1)) s Γ st):=by
 have hE:=(pP (cf:=cf) ε (k + 1)).1
 have hT:=(pP (cf:=cf) ε (k + 1)).2
 have hE0:=(pP (cf:=cf) ε k).1
 have hT0:=(pP (cf:=cf) ε k).2
 have hss:=fun Γ=>cJa (hs Γ)
 clear hs; cases st with
 | Assign ts v p=>match ts with
  | [t] =>
   show SS D n cf Γ _ (zL (trK (k + 1)) Γ t v)
   unfold zL
   cases nameP t with
   | some q =>
    obtain ⟨⟨x,px⟩,rfl⟩:=q
    refine SS.iffS fun hb=>SS.optS fun i hi=>?_
    cases hc:lC v with
    | false=>exact bC (hE Γ v) hi hc
    | true =>
     rw [hc] at hb
     exact vFa ε.g hE0 hT0 hi hb
   | none=>cases mO t with
    | some q=>obtain ⟨⟨o,x,px⟩,rfl⟩:=q; exact SS.optS fun i hi=>cW ε.g (hE Γ v) (hE Γ o) hi
    | none=>cases yF t with
     | some q=>obtain ⟨⟨o,i⟩,px,rfl⟩:=q; exact lD (hE Γ v) (hE Γ o) (hE Γ i)
     | none=>exact SS.dead
  | []=>exact SS.dead
  | _ :: _ :: _=>exact SS.dead
 | AugAssign t op v p=>cases op with
  | Add =>
   show SS D n cf Γ _ (match nameP t with | some q=>optS (Γ.own q.1.1) fun i=>.augl i ((trK (k + 1)).e Γ v) | none=>match mO t with | some q=>optS (idx q.1.2.1 atL) fun n=>.auga ((trK (k + 1)).e Γ q.1.1) n ((trK (k + 1)).e Γ v) | none=>dead)
   clear hT0 hE0; cases nameP t with
   | some q=>obtain ⟨⟨x,px⟩,rfl⟩:=q; exact SS.optS fun i hi=>nP (hE Γ v) hi
   | none=>cases mO t with
    | some q=>obtain ⟨⟨o,x,px⟩,rfl⟩:=q; exact SS.optS fun i hi=>yK ε.g (hE Γ v) (hE Γ o) hi
    | none=>exact SS.dead
  | _=>exact SS.dead
 | Expr e p=>exact SS.iffS fun hb=>iK (hE Γ e) (by simpa using hb)
 | If t a b p=>exact fH (hT Γ t) (hss Γ a) (hss Γ b)
 | Return e p=>cases e with
  | some e=>exact cM (hE Γ e)
  | none=>exact SS.dead
 | Continue p=>exact tB
 | For t it b els p=>cases els with
  | cons _ _=>exact SS.dead
  | nil =>
   show SS D n cf Γ _ (match tR Γ t it b with | some x=>x | none=>match uQ Γ t it b with | some x=>x | none=>wF (trK (k + 1)) s Γ t it b)
   clear hT0 hE0; cases h1:tR Γ t it b with
   | some x =>
    exact kNa ε.g h1
   | none =>
    dsimp only
    clear h1; cases h2:uQ Γ t it b with
    | some x =>
     exact nOa h2
    | none =>
     dsimp only
     unfold wF
     clear h2; cases nameP t with
     | some q=>obtain ⟨⟨x,px⟩,rfl⟩:=q; exact SS.iffS fun hit=>SS.optS fun i hi=>cY (wJ ε.g (hE Γ) it) (.inl ⟨rfl,x,px,i,rfl,rfl,hi⟩) hit (hss Γ b)
     | none=>cases tupP t with
      | some q=>obtain ⟨⟨es,j,px⟩,rfl⟩:=q; exact SS.iffS fun hit=>SS.optS fun is hi=>cY (wJ ε.g (hE Γ) it) (kGa hi) hit (hss Γ b)
      | none=>exact SS.dead
 | While t b els p=>cases els with
  | nil=>exact sW (hT Γ t) (hss Γ b)
  | cons _ _=>exact SS.dead
 | _=>exact SS.dead
theorem bFa (ε:mG D cf n):∀ k Γ st,SS D n cf Γ st (rT k Γ st)
 | 0,_,_=>SS.dead
 | k + 1,Γ,st=>qIa ε 29 (bFa ε k) Γ st
end Mine
end
section
open PySem PySem.W PyProof.Rows PySem.Calls
namespace Mine
variable {D:Wd} {n:Nat} {Γ:Sc} {cf:aU} {z:Z D n Γ} {σ:Sg} {H H1 H2 H':Heap} {E:Value→Shared→Prop} {v:V} {X:List (Addr × Obj)}
theorem St.dropAll {c:Act D} {m:PySem.Str→Option Value} {h:Real} {ρ:Rho}:∀ {C:List (Addr × Obj)},St c m h ρ H (C ++ X)→St c m h ρ H X
 | [],S=>S
 | _ :: C,S=>St.dropAll (C:=C) S.drop
structure CW (Γ:Sc) (penv:PySem.Env) (C:List (Addr × Obj)):Prop where
 at_:∀ x,Γ.kind x = some .cell→∃ a o v₀,penv.cells.lookup x = some a∧C = [(a,o)]∧o.data = .cell v₀
 one:∀ x y,Γ.kind x = some .cell→Γ.kind y = some .cell→x = y
theorem uCa (Γ:Sc) (st:Stmt):trB Γ st = rT 12 Γ st ∨ ∃ x p v pos i,st = .Assign [.Name x p] v pos∧Γ.cel x = some i∧(trB Γ st = dead ∨ (lC v = false∧trB Γ st = .setl i ((trK 30).e Γ v))):=by
 unfold trB
 cases aKa st with
 | none=>exact .inl rfl
 | some q =>
  obtain ⟨⟨t,v⟩,p,rfl⟩:=q
  dsimp only
  cases h:(nameOf t).bind Γ.cel with
  | none=>exact .inl rfl
  | some i =>
   right
   obtain ⟨x,e1,e2⟩:=bind_eq h
   clear h; obtain ⟨px,rfl⟩:=gR e1
   refine ⟨x,px,v,p,i,rfl,e2,?_⟩
   clear e1 e2; cases lC v with
   | true=>exact .inl rfl
   | false=>exact .inr ⟨rfl,rfl⟩
noncomputable abbrev Z.cell (z:Z D n Γ) (env:Mine.Env) (a:Addr) (o:Obj) (X:List (Addr × Obj)):Z D n Γ:={ z with env:=env,C:=[(a,o)],X:=(a,o) :: X }
theorem uZ (ε:mG D cf n):∀ ss (z:Z D n Γ) σ H H' x,z.X = z.C ++ X→CW Γ z.penv z.C→Ok z σ H→aJ cf (iV (ss.map (trB Γ))) z.env H = some (x,H')→∀ (Q:Flow→Shared→Prop) E,
  (∀ (σ':Sg) m fl C,St z.c m σ'.s.heap σ'.ρ H' (C ++ X)→Rst z.s₀ σ'.s→aQ σ.ρ σ'.ρ→FlR σ'.ρ x.1 fl→Q fl σ'.s)→wpAny (model D.prog D.w) z.A (execs ss z.penv) Q E σ.s
 | [],z,σ,H,H',x,hX,w,o,ev,Q,E,k=>by
  have ev:some ((Fl.next,z.env),H) = some (x,H'):=ev
  cases ev
  exact wpAny_execs_nil (k σ z.m .next z.C (hX ▸ o.st) o.rst (aQ.refl _) .next)
 | st :: ss,z,σ,H,H',x,hX,w,o,ev,Q,E,k=>by
  obtain ⟨y,H1,e1,h1⟩:=aW (dXa.symm.trans ev)
  clear ev; rcases uCa Γ st with ht | ⟨yn,py,v,pos,i,rfl,hc,ht⟩
  ·rw [ht] at e1
   refine wpAny_execs_cons (bFa ε 12 Γ st z σ H H1 y o e1 _ _ fun σ1 m1 fl o1 g1 hf=>?_)
   obtain ⟨yf,ye⟩:=y
   cases hf with
   | next=>exact uZ ε ss (z.at m1 ye) σ1 H1 H' x hX w o1 h1 _ _ fun σ2 m2 fl C S2 r2 g2 hf=>k σ2 m2 fl C S2 r2 (g1.trans g2) hf
   | cont=>cases h1; exact k σ1 m1 _ z.C (hX ▸ o1.st) o1.rst g1 .cont
   | ret hr=>cases h1; exact k σ1 m1 _ z.C (hX ▸ o1.st) o1.rst g1 (.ret hr)
  ·rcases ht with ht | ⟨hcomp,ht⟩
   ·rw [ht] at e1; first | exact nos e1 | exact nof e1 | cases e1
   rw [ht] at e1
   obtain ⟨u,H2,e2,h2⟩:=aW (aMa.symm.trans e1)
   clear e1; cases h2
   refine cps fun G_ g_=>?_
   obtain ⟨h3,hi⟩:=bD hc
   obtain ⟨hk,hin⟩:=Bool.and_eq_true_iff.mp h3
   have hk:=iI hk
   have hin:=Option.isNone_iff_eq_none.mp hin
   obtain ⟨a,ob,v₀,hl,hC,hd⟩:=w.at_ _ hk
   refine g_ ?_
   clear g_
   rw [hC] at hX
   refine wpAny_execs_cons (wpAny_Assign_Name ((pP ε 30).1 Γ v z σ H _ u o e2 _ _ fun σ1 rv o1 g1 hv=>?_) (vO hcomp _ _ _))
   have S1:St z.c z.m σ1.s.heap σ1.ρ _ ((a,ob) :: X):=hX ▸ o1.st
   refine cps fun G_ g_=>?_
   obtain ⟨g0,gL,_⟩:=S1.behind
   obtain ⟨kc,_⟩:=z.pk.ck hin _ hk
   refine g_ ?_
   clear g_
   refine wpAny_storeName_cell z.pk.kind kc hl ⟨ob,g0,hd⟩ fun h2 hcell hsb=>?_
   obtain ⟨o',g2,hd'⟩:=hcell
   refine uZ ε ss (z.cell (bB i u z.env) a o' X) ⟨{ σ1.s with heap:=h2 },σ1.ρ⟩ _ H' x rfl ⟨fun y hy=>?_,w.one⟩ ⟨S1.turnX hsb g2,o1.rst.to h2 σ1.s.toks,fun p hp=>?_,fun y j hlj t ht=>?_,fun h=>?_⟩ h1 _ _
    fun σ3 m3 fl C S3 r3 g3 hf=>k σ3 m3 fl C S3 r3 (g1.trans g3) hf
   ·clear g2 hsb m g0 S1 g1 hd hX e2 hcomp hc k o; cases w.one _ _ hk hy
    exact ⟨a,o',some rv,hl,rfl,hd'⟩
   ·rw [List.mem_singleton.mp hp]; exact .head _
   ·have hj:=wA hin hlj
    clear g2 hsb m g0 S1 g1 hd hX e2 hcomp hc k o; rcases zK ht with ⟨rfl,rfl⟩ | ⟨hne,ht⟩
    ·have e:=jU hj
     rw [jU hi] at e
     cases e
     exact ⟨rv,.cell kc hl (.head _) hd',hv⟩
    ·have hxy:y ≠ yn:=fun q=>hne (by subst q; rw [hi] at hj; exact (Option.some.inj hj).symm)
     obtain ⟨ru,r,q⟩:=o1.rd y j hlj t ht
     refine ⟨ru,?_,q⟩
     clear q ht hne hj hd' kc hv hl hi; cases r with
     | loc a b d=>exact .loc a b d
     | @cell ca co ck1 ck2 ck3 ck4 =>
      exfalso
      obtain ⟨ky,hky⟩:=fSa hlj
      have hkk:ky = .cell:=by
       unfold Sc.loc at hlj
       rw [hky,hin] at hlj
       clear ck4 ck3 ck2 ht; cases ky with
       | «local»=>rw [z.pk.lk _ hky] at ck1; first | exact nos ck1 | exact nof ck1 | cases ck1
       | cell=>rfl
       | _=>first | exact nos hlj | exact nof hlj | cases hlj
      clear ck4 ck3 ck2 ck1 ht hlj; subst hkk
      exact hxy (w.one _ _ hky hk)
     | @inn o2 mC h1 h2 h3 h4 =>
      exfalso
      rw [hC] at h2
      have h2':=List.mem_singleton.mp h2
      exact gL (by rw [← z.pk.lo hin]; exact (congrArg Prod.fst h2').symm)
   ·show _ ≤ (bB i u z.env).length
    rw [aCa]
    exact o1.ln h
end Mine
end
section
open PySem PySem.W PyProof.Rows PySem.Calls
namespace Mine
noncomputable abbrev eZ (f:F):Nat:=(src f).params.length
noncomputable def okF (f:F):Bool :=
 let sc:=(src f).scope
 let sl:=(scF f).slots
 sc.kind == .function && sc.isCoroutine == false && sc.isGenerator == false && sl.take (eZ f) == (src f).params && decide sl.Nodup && (sc.names.all fun y=>y.1 != ("__debug__":PySem.Str)) && decide ((sc.names.filter fun y=>y.2 == .cell).length ≤ 1)
  && ((src f).params.all fun x=>isK .local (at_ x sc.names) || isK .cell (at_ x sc.names)) && decide (sc.names.map (·.1)).Nodup
structure Stat (f:F):Prop where
 kind:(src f).scope.kind = .function
 co:(src f).scope.isCoroutine = false
 gen:(src f).scope.isGenerator = false
 take:(scF f).slots.take (eZ f) = (src f).params
 snd:(scF f).slots.Nodup
 dbg:∀ y ∈ (src f).scope.names,(y.1 == ("__debug__":PySem.Str)) = false
 one:((src f).scope.names.filter fun y=>y.2 == .cell).length ≤ 1
 par:∀ x ∈ (src f).params,at_ x (src f).scope.names = some .local ∨ at_ x (src f).scope.names = some .cell
 nd:((src f).scope.names.map (·.1)).Nodup
theorem stat (f:F):Stat f:=by
 have h:okF f = true:=by cases f <;> decide +kernel
 unfold okF at h
 simp only [Bool.and_eq_true,List.all_eq_true,Bool.or_eq_true,beq_iff_eq,bne_iff_ne,decide_eq_true_eq] at h
 obtain ⟨⟨⟨⟨⟨⟨⟨⟨h1,h2⟩,h3⟩,h4⟩,h5⟩,h6⟩,h7⟩,h8⟩,h9⟩:=h
 exact ⟨h1,h2,h3,h4,h5,fun y hy=>by simpa using h6 y hy,h7,fun x hx=>(h8 x hx).imp iI iI,h9⟩
theorem zT:∀ (names:List (PySem.Str × NameKind)) (n:Nat) (acc:List (PySem.Str × Addr)),(names.filter fun y=>y.2 == .cell) = []→cellsFrom n names acc = acc
 | [],_,_,_=>rfl
 | (x,k) :: r,n,acc,h=>by
  rw [List.filter_cons] at h
  unfold cellsFrom
  split at h
  ·first | exact nos h | exact nof h | cases h
  ·rename_i q
   rw [if_neg q]
   exact zT r n acc h
theorem hWa:∀ (names:List (PySem.Str × NameKind)) (n:Nat) (acc:List (PySem.Str × Addr)) {z:PySem.Str × NameKind},(names.filter fun y=>y.2 == .cell) = [z]→cellsFrom n names acc = (z.1,n) :: acc
 | [],_,_,_,h=>by cases h
 | (x,k) :: r,n,acc,z,h=>by
  rw [List.filter_cons] at h
  unfold cellsFrom
  split at h
  ·rename_i q
   rw [if_pos q]
   have h1:=(List.cons.inj h).1
   rw [zT r _ _ (List.cons.inj h).2,← h1]
  ·rename_i q
   rw [if_neg q]
   exact hWa r n acc h
theorem gRa {α:Type} {x:PySem.Str} {a:α}:∀ {l:List (PySem.Str × α)},(l.map (·.1)).Nodup→(x,a) ∈ l→at_ x l = some a
 | [],_,h=>by cases h
 | (y,b) :: r,nd,h=>by
  rw [List.map_cons,List.nodup_cons] at nd
  rw [bCa]
  rcases List.mem_cons.mp h with q | h
  ·cases q; exact if_pos rfl
  ·rw [if_neg fun q:x = y=>nd.1 (q ▸ List.mem_map.mpr ⟨_,h,rfl⟩)]
   exact gRa nd.2 h
theorem cVa {names:List (PySem.Str × NameKind)} (nd:(names.map (·.1)).Nodup) (h3:(names.filter fun y=>y.2 == .cell).length ≤ 1) :
  (∀ n,cellsFrom n names [] = []∧∀ x,at_ x names ≠ some .cell) ∨ ∃ x,at_ x names = some .cell∧(∀ y,at_ y names = some .cell→y = x)∧∀ n,cellsFrom n names [] = [(x,n)]:=by
 have mem:∀ {x},at_ x names = some .cell→(x,NameKind.cell) ∈ names.filter fun y=>y.2 == .cell:=fun h=>List.mem_filter.mpr ⟨fQ h,rfl⟩
 cases hq:names.filter (fun y=>y.2 == .cell) with
 | nil =>
  refine .inl fun n=>⟨zT _ n [] hq,fun x h=>?_⟩
  have:=mem h
  rw [hq] at this; first | exact nos this | exact nof this | cases this
 | cons z r =>
  rw [hq] at h3
  cases r with
  | cons _ _=>simp at h3
  | nil =>
   have hz:z ∈ names.filter fun y=>y.2 == .cell:=by rw [hq]; exact .head _
   obtain ⟨hz1,hz2⟩:=List.mem_filter.mp hz
   obtain ⟨x,k⟩:=z
   clear hz h3; cases (by simpa using hz2:k = .cell)
   refine .inr ⟨x,gRa nd hz1,fun y hy=>?_,fun n=>hWa _ n [] hq⟩
   have:=mem hy
   rw [hq,List.mem_singleton] at this
   exact congrArg Prod.fst this
theorem fJa {k:PySem.Str→Option NameKind} {x:PySem.Str}:∀ {binds:List (PySem.Str × Value)} {m:PySem.Str→Option Value},x ∉ binds.map (·.1)→bindL k binds m x = m x
 | [],_,_=>rfl
 | (y,v) :: r,m,h=>by
  unfold bindL
  rw [fJa (fun q=>h (.tail _ q))]
  split
  ·exact if_neg fun q:x = y=>h (by rw [q]; exact .head _)
  ·rfl
theorem cKa {k:PySem.Str→Option NameKind} {x:PySem.Str}:∀ {binds:List (PySem.Str × Value)} {m:PySem.Str→Option Value},x ∉ binds.map (·.1)→bindC k binds m x = m x
 | [],_,_=>rfl
 | (y,v) :: r,m,h=>by
  unfold bindC
  rw [cKa (fun q=>h (.tail _ q))]
  split
  ·rfl
  ·exact if_neg fun q:x = y=>h (by rw [q]; exact .head _)
theorem fTa {k:PySem.Str→Option NameKind} {x:PySem.Str} {v:Value} (hk:k x = some .local):∀ {binds:List (PySem.Str × Value)} {m:PySem.Str→Option Value},(binds.map (·.1)).Nodup→(x,v) ∈ binds→bindL k binds m x = some v
 | [],_,_,h=>by cases h
 | (y,u) :: r,m,nd,h=>by
  rw [List.map_cons,List.nodup_cons] at nd
  unfold bindL
  rcases List.mem_cons.mp h with q | h
  ·first | exact nos q | exact nof q | cases q
   rw [fJa nd.1,if_pos hk,if_pos rfl]
  ·exact fTa hk nd.2 h
theorem fDa {k:PySem.Str→Option NameKind} {x:PySem.Str} {v:Value} (hk:k x = some .cell):∀ {binds:List (PySem.Str × Value)} {m:PySem.Str→Option Value},(binds.map (·.1)).Nodup→(x,v) ∈ binds→bindC k binds m x = some v
 | [],_,_,h=>by cases h
 | (y,u) :: r,m,nd,h=>by
  rw [List.map_cons,List.nodup_cons] at nd
  unfold bindC
  rcases List.mem_cons.mp h with q | h
  ·first | exact nos q | exact nof q | cases q
   rw [cKa nd.1,if_neg (by rw [hk]; exact fun q=>nomatch q),if_pos rfl]
  ·exact fDa hk nd.2 h
structure qX (D:Wd) (f:F):Type where
 name:PySem.Str
 qual:PySem.Str
 params:Arguments
 dV:Value
 kV:Value
 doc:Value
 pm:Value
 cdv:Value
 ct:Value
 oc:Value
 an:Option Addr
 od:Option Addr
 osl:Array (Option Value)
 look:D.K.lookup (D.fa f) = some ⟨oc,od,.func (fnX name qual params (src f).body (src f).scope [] dV kV doc pm an cdv ct),osl⟩
 code:codeIn D.K cdv qual = true
 bind:∀ {s:Shared} {ρ:Rho} {vs:List V} {rvs:List Value},D.K.In s.heap→VRs ρ vs rvs→vs.length ≤ eZ f→eZ f ≤ vs.length + (dZ f).length →
  ∃ rds,VRs ρ ((dZ f).drop ((dZ f).length - (eZ f - vs.length))) rds∧BindsTo s (fnX name qual params (src f).body (src f).scope [] dV kV doc pm an cdv ct) ⟨rvs,[]⟩ ((src f).params.zip (rvs ++ rds))
theorem cZa {α β:Type}:∀ {l:List α} {r:List β},l.length = r.length→(l.zip r).map (·.1) = l
 | [],_,_=>by simp
 | x :: l,[],h=>by cases h
 | x :: l,y :: r,h=>by simp [cZa (Nat.succ.inj h)]
theorem zip_get {α β:Type} {l:List α} {r:List β} {i:Nat} {a:α} {b:β} (h1:l[i]? = some a) (h2:r[i]? = some b):(a,b) ∈ l.zip r:=by
 have:(l.zip r)[i]? = some (a,b):=by rw [List.getElem?_zip_eq_some]; exact ⟨h1,h2⟩
 exact List.mem_of_getElem? this
theorem tVa {f:IFn} {vs:List V} {env:Mine.Env} (h:mY f vs = some env):vs.length ≤ f.params∧f.params ≤ vs.length + f.dflts.length∧env.length ≥ f.slots ∧
  ∀ {i:Nat} {u:V},env[i]? = some (some u)→(vs ++ f.dflts.drop (f.dflts.length - (f.params - vs.length)))[i]? = some u:=by
 obtain ⟨hb,h1⟩:=bD h
 obtain ⟨q1,q2⟩:=of_decide_eq_true hb
 clear hb h; cases h1
 refine ⟨q1,q2,?_,fun {i u} hu=>?_⟩
 ·rw [List.length_append,List.length_map,List.length_append,List.length_drop,List.length_replicate]
  exact (by rw [← arity q1 q2]; exact vPa _ _)
 ·clear q2 q1; by_cases q:i < ((vs ++ f.dflts.drop (f.dflts.length - (f.params - vs.length))).map some).length
  ·rw [List.getElem?_append_left q,List.getElem?_map] at hu
   cases w:(vs ++ f.dflts.drop (f.dflts.length - (f.params - vs.length)))[i]? with
   | none=>rw [w] at hu; first | exact nos hu | exact nof hu | cases hu
   | some u'=>rw [w] at hu; cases hu; rfl
  ·rw [List.getElem?_append_right (Nat.not_lt.mp q),List.getElem?_replicate] at hu
   clear q; split at hu <;> cases hu
end Mine
end
section
open PySem PySem.W PyProof.Rows PySem.Calls
namespace Mine
theorem AR.deep {D:Wd} {c c':Act D} {A:Around} {n:Nat} (a:AR c A (n + 1) 2) {e:PySem.Env} (h1:c'.fenv = e) (h2:c'.outer = c.fenv :: c.outer):AR c' (A.deeper e) n 3:=by
 refine ⟨a.hd,?_,?_,?_⟩
 ·show A.frames.map (e :: ·) = _
  rw [a.fr,h1,h2]; rfl
 ·show A.depth + 1 + 3 * n + 3 < _
  have:=a.depth
  exact lin [_,_,_] (.a (.a (.a (.a .x (.n 1)) (.m 3 .y)) (.n 3)) (.n 1)) .z [(.a (.a (.a .x (.m 3 (.a .y (.n 1)))) (.n 2)) (.n 1),.z)] rfl this
 ·show A.units + 3 + 40 * n + 30 * 3 < _
  have:=a.units
  exact lin [_,_,_] (.a (.a (.a (.a .x (.n 3)) (.m 40 .y)) (.m 30 (.n 3))) (.n 1)) .z [(.a (.a (.a .x (.m 40 (.a .y (.n 1)))) (.m 30 (.n 2))) (.n 1),.z)] rfl this
theorem nYa {D:Wd} (hG:GOk D) (hd:∀ f,qX D f) {n:Nat} (hC:uN D (aC tab n) n):uN D (aC tab (n + 1)) (n + 1):=by
 intro c A m s ρ H H' X f vs rvs v R a S R0 ev k
 refine cps fun G_ g_=>?_
 obtain ⟨env0,he,h0⟩:=bind_eq (show (mY (tab f) vs).bind _ = some (v,H') from ev)
 obtain ⟨⟨fl,envE⟩,H1,e1,h1⟩:=aW h0
 clear h0 ev; obtain ⟨e2,rfl⟩:=iW h1
 obtain ⟨z1,z2,z3,z4⟩:=tVa he
 have d:=hd f
 have st:=stat f
 have hl:(dZ f).length - (eZ f - vs.length) ≤ (dZ f).length:=Nat.sub_le _ _
 obtain ⟨rds,hrd,hb⟩:=d.bind (c.KX.keeps S.fr.keep) R0 z1 z2
 refine g_ ?_
 clear g_
 have hall:VRs ρ (vs ++ (dZ f).drop ((dZ f).length - (eZ f - vs.length))) (rvs ++ rds):=R0.append hrd
 have hlen:eZ f = (rvs ++ rds).length:=by
  have z1':vs.length ≤ eZ f:=z1
  have z2':eZ f ≤ vs.length + (dZ f).length:=z2
  rw [hall.length,List.length_append,List.length_drop]
  exact arity z1' z2'
 have hpn:(src f).params.Nodup:=by rw [← st.take]; exact (List.take_sublist _ _).nodup st.snd
 have hzf:((src f).params.zip (rvs ++ rds)).map (·.1) = (src f).params:=cZa hlen
 have hbn:(((src f).params.zip (rvs ++ rds)).map (·.1)).Nodup:=by rw [hzf]; exact hpn
 have hcs:=cVa st.nd st.one
 have hroom:A.depth < recursionLimit:=Nat.lt_of_le_of_lt (Nat.le_trans (Nat.le_add_right _ _) (Nat.le_add_right _ _)) a.depth
 have hlk:∀ {x},(src f).scope.names.lookup x = at_ x (src f).scope.names:=lookup_at
 refine callX_cells c.B S.fr S.news c.T.nolimit a.fr c.hf c.hk ((c.KX.keeps S.fr.keep) _ _ d.look) rfl (codeRec_of (c.KX.keeps S.fr.keep) d.code) hroom hb (fun n x hx=>?_) ?_ ?_ st.co st.gen st.kind
 ·have hx1:x.1 ∈ (src f).params:=by rw [← hzf]; exact List.mem_map_of_mem hx
  clear hroom hzf hpn hrd z2 z1 he R0; rcases st.par _ hx1 with h | h
  ·exact .inl (hlk.trans h)
  ·refine .inr ⟨hlk.trans h,?_⟩
   clear hx1; rcases hcs with h2 | ⟨y,_,h3,h4⟩
   ·exact absurd h ((h2 0).2 _)
   ·rw [h4,h3 _ h,List.lookup_cons,beq_self_eq_true]
    rfl
 ·clear hroom hzf hpn hrd z2 z1 he R0; rcases hcs with h2 | ⟨y,_,h3,h4⟩
  ·rw [(h2 0).1]; exact List.nodup_nil
  ·rw [h4]; simp
 ·intro g L' h₁ tk cells FG F' N' Y' BG hst hlt
  let c':Act D:={ A₀:=A,base:=c.base,outer:=c.fenv :: c.outer,h₀:=g,L:=L',fenv:=envOfC d.qual (src f).scope L' (D.fa f) d.cdv,B:=BG,KX:=c.KX.keeps hst,T:=c.T.keeps hst,hf:=rfl,hk:=st.kind }
  let bs:=(src f).params.zip (rvs ++ rds)
  let kO:=(envOfC d.qual (src f).scope L' (D.fa f) d.cdv).kindOf
  have S0:St c' _ h₁ ρ H X:=⟨F',S.sim.carry (fun b hb o e=>(N' _ (List.mem_append_right _ (iQ.mpr ⟨hb,e⟩))).1) fun b hb=>by
   obtain ⟨o,e⟩:=S.here hb
   exact (N' _ (List.mem_append_right _ (iQ.mpr ⟨hb,e⟩))).2⟩
  have hltm:∀ b ∈ mine ρ X,b < L':=fun b hb=>by
   obtain ⟨o,e⟩:=S.here hb
   exact hlt _ (iQ.mpr ⟨hb,e⟩)
  have hcell:(cells = []∧∀ x,at_ x (src f).scope.names ≠ some .cell) ∨ ∃ x o,at_ x (src f).scope.names = some .cell∧(∀ y,at_ y (src f).scope.names = some .cell→y = x)∧cells = [(L' + 1,o)]∧cellsFrom (L' + 1) (src f).scope.names [] = [(x,L' + 1)] ∧
    o.data = .cell (bindC kO bs (fun _=>none) x):=by
   clear hlt FG hroom hzf hpn hrd z2 z1 he R0 S; rcases hcs with h2 | ⟨x,h2,h3,h4⟩
   ·rw [(h2 (L' + 1)).1] at Y'
    cases Y'
    exact .inl ⟨rfl,(h2 0).2⟩
   ·rw [h4] at Y'
    obtain ⟨o,e1,e2⟩:=Y'.one
    exact .inr ⟨x,o,h2,h3,e1,h4 _,e2⟩
  have S1:St c' (bindL kO bs fun _=>none) h₁ ρ H (cells ++ X):=by
   clear hlt Y' FG hroom hcs hzf hpn hrd z2 z1 he R0 S; rcases hcell with ⟨rfl,_⟩ | ⟨x,o,_,_,rfl,_,_⟩
   ·exact S0
   ·obtain ⟨n1,n2,n3⟩:=N' (L' + 1,o) (.head _)
    have off:L' + 1 ∉ mine ρ X:=fun q=>absurd (hltm _ q) (Nat.not_lt.mpr (Nat.le_succ _))
    refine ⟨F',S0.sim.len,S0.sim.cont,S0.sim.nd,S0.sim.fresh,fun y hy=>?_,?_⟩
    ·clear N' hltm F'; rcases List.mem_cons.mp hy with rfl | hy
     ·exact ⟨n1,n2,n3,fun q=>off (List.mem_append_left _ q)⟩
     ·exact S0.sim.priv y hy
    ·show ((L' + 1) :: X.map (·.1)).Nodup
     exact List.nodup_cons.mpr ⟨fun q=>off (List.mem_append_right _ q),S0.sim.xnd⟩
  have hck:∀ x,at_ x (src f).scope.names = some .cell→∃ o,(envOfC d.qual (src f).scope L' (D.fa f) d.cdv).cells.lookup x = some (L' + 1)∧cells = [(L' + 1,o)]∧o.data = .cell (bindC kO bs (fun _=>none) x):=fun x hx=>by
   clear hltm S0 hlt Y' N' F' FG hroom hcs hzf hpn hrd z2 z1 he R0 S; rcases hcell with ⟨_,h⟩ | ⟨y,o,_,h3,h4,h5,h6⟩
   ·exact absurd hx (h x)
   ·cases h3 x hx
    refine ⟨o,?_,h4,h6⟩
    show (cellsFrom (L' + 1) (src f).scope.names []).lookup x = _
    rw [h5,List.lookup_cons,beq_self_eq_true]
  let pk:PK c' (scF f) (envOfC d.qual (src f).scope L' (D.fa f) d.cdv):=⟨rfl,rfl,st.kind,fun x hm=>hlk.trans (iI hm),fun x kd hm=>st.dbg _ (fQ hm),Nat.le_refl _,st.snd,fun x hm=>hlk.trans hm,fun _ x hm=>⟨hlk.trans hm,let ⟨_,e,_⟩:=hck x hm; ⟨_,e⟩⟩,fun _=>rfl⟩
  let z:Z D n (scF f):=⟨c',A.deeper (envOfC d.qual (src f).scope L' (D.fa f) d.cdv),{ s with heap:=h₁,toks:=tk },envOfC d.qual (src f).scope L' (D.fa f) d.cdv,a.deep rfl rfl,pk,bindL kO bs fun _=>none,cells ++ X,cells,env0⟩
  have oz:Ok z ⟨{ s with heap:=h₁,toks:=tk },ρ⟩ H:=by
   refine ⟨S1,rfl,fun p hp=>List.mem_append_left _ hp,fun x i hl u hu=>?_,fun _=>?_⟩
   ·obtain ⟨ru,er,hru⟩:=hall.get (z4 hu)
    have hip:i < eZ f:=by
     have:=(List.getElem?_eq_some_iff.mp er).1
     exact lin [_,_,_] (.a .x (.n 1)) .y [(.a .x (.n 1),.z),(.z,.y)] rfl this (Nat.le_of_eq hlen.symm)
    have hp:(src f).params[i]? = some x:=by rw [← st.take,List.getElem?_take,if_pos hip]; exact jU (wA rfl hl)
    have hin:=zip_get hp er
    clear hip er hu hl S1 hltm S0 hlt Y' N' F' FG hroom hcs hzf hpn hlen hall hrd z4 z2 z1 he R0 S; rcases st.par x (List.mem_of_getElem? hp) with hm | hm
    ·exact ⟨ru,.loc rfl (hlk.trans hm) (fTa (hlk.trans hm) hbn hin),hru⟩
    ·obtain ⟨o,h1,h2,h3⟩:=hck x hm
     rw [fDa (hlk.trans hm) hbn hin] at h3
     exact ⟨ru,.cell (hlk.trans hm) h1 (show _ ∈ cells by rw [h2]; exact .head _) h3,hru⟩
   ·have:(scF f).n + 4 ≤ env0.length:=z3
    exact Nat.le_trans (Nat.le_add_right _ 4) this
  refine uZ (Γ:=scF f) ⟨hG,hC⟩ (src f).body z _ H _ (fl,envE) rfl ⟨fun x hm=>?_,fun x y hx hy=>?_⟩ oz e1 _ _ fun σ2 m2 fl2 C2 S2 r2 g2 hf=>?_
  ·obtain ⟨o,h1,h2,h3⟩:=hck x hm
   exact ⟨_,o,_,h1,h2,h3⟩
  ·clear oz S1 hltm S0 hlt Y' N' F' FG hroom hcs hbn hzf hpn hlen hall hrd hl z4 z3 z2 z1 h1 e1 he R0 S hC hG; rcases hcell with ⟨_,h⟩ | ⟨w,o,_,h3,_⟩
   ·exact absurd hx (h x)
   ·rw [h3 x hx,h3 y hy]
  ·refine ⟨L',m2,_,S2.fr,S2.news,fun Fc Nc=>?_⟩
   have S3:St c m σ2.s.heap σ2.ρ _ (C2 ++ X):=⟨Fc,S2.sim.carry (fun _ _ _ e=>e) fun b hb=>by
    obtain ⟨o,e⟩:=S2.here hb
    exact (Nc _ (iQ.mpr ⟨hb,e⟩)).2⟩
   have r2:σ2.s = { s with heap:=σ2.s.heap,toks:=σ2.s.toks }:=r2
   generalize σ2.s.toks = tk2 at r2
   generalize σ2.s.heap = h2 at r2 S3
   rw [r2]
   clear r2 Nc Fc S2 oz S1 hcell hltm S0 hlt Y' N' F' FG hroom hcs hbn hzf hpn hlen hall hb hrd hl z4 z3 z2 z1 h1 e1 he R0 S hC hG; cases hf with
   | next=>cases e2; exact k h2 tk2 σ2.ρ .none S3.dropAll g2 .none
   | cont=>first | exact nos e2 | exact nof e2 | cases e2
   | ret hr=>cases e2; exact k h2 tk2 σ2.ρ _ S3.dropAll g2 hr
theorem dUa {D:Wd} (hG:GOk D) (hd:∀ f,qX D f):∀ n,uN D (aC tab n) n
 | 0=>fun _ _ _ ev _=>by cases ev
 | n + 1=>nYa hG hd (dUa hG hd n)
end Mine
end
section
namespace Mine
open PySem (Str)
noncomputable def pFa:ISs:=(.cons (.ite (.val (.cmp .Eq (.sub (.loc 0) (.const (.int (2)))) (.const (.int (0))))) (.cons (.ite (.val (.cmp .Eq (.sub (.loc 0) (.const (.int (1)))) (.blt .len (.cons (.sub (.loc 0) (.const (.int (0)))) .nil)))) (.cons (.seti (.loc 0) (.const (.int (3))) (.bin .Mod (.bin .Mult (.sub (.loc 0) (.const (.int (3)))) (.const (.int (48271)))) (.const (.int (2147483647)))))
 (.cons (.ret (.bin .Mod (.bin .FloorDiv (.sub (.loc 0) (.const (.int (3)))) (.const (.int (7)))) (.loc 1)))
 .nil)) .nil)
 (.cons (.setl 2 (.sub (.sub (.loc 0) (.const (.int (0)))) (.sub (.loc 0) (.const (.int (1))))))
 (.cons (.seti (.loc 0) (.const (.int (1))) (.bin .Add (.sub (.loc 0) (.const (.int (1)))) (.const (.int (1)))))
 (.cons (.seti (.loc 0) (.const (.int (2))) (.ite (.val (.cmp .GtE (.loc 2) (.const (.int (0))))) (.loc 2) (.neg (.loc 2))))
 .nil)))) .nil)
 (.cons (.setl 3 (.bin .Mod (.sub (.loc 0) (.const (.int (2)))) (.loc 1)))
 (.cons (.seti (.loc 0) (.const (.int (2))) (.bin .FloorDiv (.sub (.loc 0) (.const (.int (2)))) (.loc 1)))
 (.cons (.ret (.loc 3))
 .nil))))
noncomputable def wXa:ISs:=(.cons (.setl 2 (.dict ["boolean","char","byte","integer","set"] (.cons (.const (.str ("BOOLEAN"))) (.cons (.const (.str ("CHAR"))) (.cons (.const (.str ("BYTE"))) (.cons (.const (.str ("INTEGER"))) (.cons (.const (.str ("SET"))) .nil)))))))
 (.cons (.ite (.val (.cmp .In (.attr (.loc 1) 1) (.loc 2))) (.cons (.ret (.sub (.loc 2) (.attr (.loc 1) 1)))
 .nil) .nil)
 (.cons (.ite (.val (.cmp .In (.attr (.loc 1) 0) (.loc 0))) (.cons (.ret (.sub (.loc 0) (.attr (.loc 1) 0)))
 .nil) .nil)
 (.cons (.ret (.ite (.val (.cmp .Eq (.attr (.loc 1) 8) (.const (.str ("N"))))) (.const (.str ("N.R"))) (.call .lstructure (.cons (.loc 0) (.cons (.loc 1) .nil)))))
 .nil))))
noncomputable def oGa:ISs:=(.cons (.setl 2 (.list .nil))
 (.cons (.for [3,4,5] true (.of (.loc 1)) (.cons (.ite (.and (.val (.cmp .NotEq (.loc 2) (.list .nil))) (.and (.val (.cmp .Eq (.sub (.sub (.loc 2) (.neg (.const (.int (1))))) (.const (.int (0)))) (.loc 3))) (.val (.cmp .Eq (.sub (.sub (.loc 2) (.neg (.const (.int (1))))) (.const (.int (2)))) (.attr (.loc 5) 0))))) (.cons (.seti (.loc 2) (.neg (.const (.int (1)))) (.tuple (.cons (.loc 3) (.cons (.bin .Add (.bin .Add (.sub (.sub (.loc 2) (.neg (.const (.int (1))))) (.const (.int (1)))) (.const (.str (", ")))) (.loc 4)) (.cons (.attr (.loc 5) 0) (.cons (.sub (.sub (.loc 2) (.neg (.const (.int (1))))) (.const (.int (3)))) .nil))))))
 .nil) (.cons (.expr (.bmeth .append (.loc 2) (.cons (.tuple (.cons (.loc 3) (.cons (.loc 4) (.cons (.attr (.loc 5) 0) (.cons (.loc 5) .nil))))) .nil)))
 .nil))
 .nil))
 (.cons (.ret (.bmeth .join (.const (.str ("; "))) (.cons (.comp [6,7,8,9] true (.of (.loc 2)) .nil (.bin .Add (.bin .Add (.bin .Add (.loc 6) (.loc 7)) (.const (.str (": ")))) (.call .ltext (.cons (.loc 0) (.cons (.loc 9) .nil))))) .nil)))
 .nil)))
noncomputable def uFa:ISs:=(.cons (.ite (.val (.cmp .Eq (.attr (.loc 1) 1) (.const (.str ("array"))))) (.cons (.ret (.bin .Add (.bin .Add (.bin .Add (.const (.str ("ARRAY "))) (.ite (.val (.cmp .Lt (.attr (.loc 1) 4) (.const (.int (0))))) (.const (.str (""))) (.bin .Add (.blt .str (.cons (.attr (.loc 1) 4) .nil)) (.const (.str (" ")))))) (.const (.str ("OF ")))) (.call .ltext (.cons (.loc 0) (.cons (.attr (.loc 1) 3) .nil)))))
 .nil) .nil)
 (.cons (.ite (.val (.cmp .Eq (.attr (.loc 1) 1) (.const (.str ("pointer"))))) (.cons (.ret (.bin .Add (.const (.str ("POINTER TO "))) (.call .ltext (.cons (.loc 0) (.cons (.attr (.loc 1) 3) .nil)))))
 .nil) .nil)
 (.cons (.setl 2 (.call .lgrouped (.cons (.loc 0) (.cons (.comp [3] false (.of (.attr (.loc 1) 5)) (.cons (.val (.attr (.loc 3) 16)) .nil) (.tuple (.cons (.const (.str (""))) (.cons (.attr (.loc 3) 12) (.cons (.attr (.loc 3) 14) .nil))))) .nil))))
 (.cons (.ret (.bin .Add (.bin .Add (.bin .Add (.const (.str ("RECORD"))) (.ite (.val (.cmp .Is (.attr (.loc 1) 3) (.const (.none)))) (.const (.str (""))) (.bin .Add (.bin .Add (.const (.str (" ("))) (.call .ltext (.cons (.loc 0) (.cons (.attr (.loc 1) 3) .nil)))) (.const (.str (")")))))) (.ite (.val (.cmp .Eq (.loc 2) (.const (.str (""))))) (.const (.str (""))) (.bin .Add (.const (.str (" "))) (.loc 2)))) (.const (.str (" END")))))
 .nil))))
noncomputable def rCa:ISs:=(.cons (.setl 2 (.call .lgrouped (.cons (.loc 0) (.cons (.comp [3] false (.of (.attr (.loc 1) 7)) .nil (.tuple (.cons (.ite (.and (.val (.cmp .Eq (.attr (.loc 3) 13) (.const (.str ("par"))))) (.not (.val (.attr (.loc 3) 17)))) (.const (.str ("VAR "))) (.const (.str ("")))) (.cons (.attr (.loc 3) 12) (.cons (.attr (.loc 3) 14) .nil))))) .nil))))
 (.cons (.ite (.and (.val (.cmp .Eq (.attr (.loc 1) 7) (.list .nil))) (.val (.cmp .Eq (.attr (.attr (.loc 1) 3) 1) (.const (.str ("none")))))) (.cons (.ret (.const (.str (""))))
 .nil) .nil)
 (.cons (.ret (.bin .Add (.bin .Add (.bin .Add (.const (.str (" ("))) (.loc 2)) (.const (.str (")")))) (.ite (.val (.cmp .Eq (.attr (.attr (.loc 1) 3) 1) (.const (.str ("none"))))) (.const (.str (""))) (.bin .Add (.const (.str (": "))) (.call .ltext (.cons (.loc 0) (.cons (.attr (.loc 1) 3) .nil)))))))
 .nil)))
noncomputable def xW:ISs:=(.cons (.setl 4 (.call .pick (.cons (.loc 0) (.cons (.const (.int (4))) .nil))))
 (.cons (.ite (.val (.cmp .Eq (.loc 4) (.const (.int (0))))) (.cons (.ret (.sub (.loc 2) (.call .pick (.cons (.loc 0) (.cons (.blt .len (.cons (.loc 2) .nil)) .nil)))))
 .nil) .nil)
 (.cons (.ite (.val (.cmp .Eq (.loc 4) (.const (.int (1))))) (.cons (.setl 5 (.ometh .new .tys (.loc 1) (.cons (.const (.str ("record"))) (.cons (.const (.int (8))) (.cons (.const (.str ("M"))) (.cons (.loc 3) .nil))))))
 (.cons (.setl 7 (.comp [9] false (.of (.loc 2)) (.cons (.val (.cmp .Eq (.attr (.loc 9) 1) (.const (.str ("record"))))) .nil) (.loc 9)))
 (.cons (.seta (.loc 5) 3 (.ite (.val (.cmp .Eq (.call .pick (.cons (.loc 0) (.cons (.const (.int (2))) .nil))) (.const (.int (1))))) (.sub (.loc 7) (.call .pick (.cons (.loc 0) (.cons (.blt .len (.cons (.loc 7) .nil)) .nil)))) (.const (.none))))
 (.cons (.for [8] false (.range (.call .pick (.cons (.loc 0) (.cons (.const (.int (4))) .nil)))) (.cons (.setl 6 (.make .ob .initOb (.cons (.bin .Add (.const (.str ("f"))) (.blt .str (.cons (.loc 8) .nil))) (.cons (.const (.str ("field"))) (.cons (.sub (.loc 2) (.call .pick (.cons (.loc 0) (.cons (.blt .len (.cons (.loc 2) .nil)) .nil)))) (.cons (.const (.int (0))) .nil))))))
 (.cons (.seta (.loc 6) 16 (.cmp .Lt (.call .pick (.cons (.loc 0) (.cons (.const (.int (3))) .nil))) (.const (.int (2)))))
 (.cons (.expr (.bmeth .append (.attr (.loc 5) 5) (.cons (.loc 6) .nil)))
 .nil))))
 (.cons (.ret (.loc 5))
 .nil))))) .nil)
 (.cons (.setl 7 (.comp [9] false (.of (.loc 2)) (.cons (.val (.cmp .Eq (.attr (.loc 9) 1) (.const (.str ("record"))))) .nil) (.loc 9)))
 (.cons (.setl 5 (.ometh .new .tys (.loc 1) (.cons (.sub (.list (.cons (.const (.str ("array"))) (.cons (.const (.str ("pointer"))) .nil))) (.bin .Sub (.loc 4) (.const (.int (2))))) (.cons (.const (.int (4))) (.cons (.const (.str ("M"))) (.cons (.loc 3) .nil))))))
 (.cons (.seta (.loc 5) 3 (.ite (.val (.cmp .Eq (.loc 4) (.const (.int (2))))) (.sub (.loc 2) (.call .pick (.cons (.loc 0) (.cons (.blt .len (.cons (.loc 2) .nil)) .nil)))) (.sub (.loc 7) (.call .pick (.cons (.loc 0) (.cons (.blt .len (.cons (.loc 7) .nil)) .nil))))))
 (.cons (.seta (.loc 5) 4 (.ite (.val (.cmp .Eq (.loc 4) (.const (.int (2))))) (.bin .Add (.const (.int (1))) (.call .pick (.cons (.loc 0) (.cons (.const (.int (9))) .nil)))) (.const (.int (0)))))
 (.cons (.ret (.loc 5))
 .nil))))))))
noncomputable def kMa:ISs:=(.cons (.setl 3 (.call .pick (.cons (.loc 0) (.cons (.const (.int (5))) .nil))))
 (.cons (.seta (.loc 2) 14 (.sub (.list (.cons (.attr (.loc 1) 34) (.cons (.attr (.loc 1) 32) (.cons (.attr (.loc 1) 31) (.cons (.attr (.loc 1) 35) (.cons (.ometh .string .tys (.loc 1) (.cons (.const (.int (3))) .nil)) .nil)))))) (.loc 3)))
 (.cons (.seta (.loc 2) 18 (.sub (.list (.cons (.const (.str ("ab"))) (.cons (.call .pick (.cons (.loc 0) (.cons (.const (.int (2000))) .nil))) (.cons (.call .pick (.cons (.loc 0) (.cons (.const (.int (256))) .nil))) (.cons (.call .pick (.cons (.loc 0) (.cons (.const (.int (2))) .nil))) (.cons (.call .pick (.cons (.loc 0) (.cons (.const (.int (256))) .nil))) .nil)))))) (.bin .Mod (.bin .Add (.loc 3) (.const (.int (1)))) (.const (.int (5))))))
 (.cons (.ite (.val (.cmp .Eq (.loc 3) (.const (.int (3))))) (.cons (.setl 5 (.comp [7] false (.range (.const (.int (8)))) (.cons (.val (.cmp .Eq (.bin .Mod (.bin .FloorDiv (.attr (.loc 2) 18) (.bin .Pow (.const (.int (2))) (.loc 7))) (.const (.int (2)))) (.const (.int (1))))) .nil) (.loc 7)))
 (.cons (.setl 6 (.list .nil))
 (.cons (.for [4] false (.of (.loc 5)) (.cons (.ite (.and (.val (.cmp .NotEq (.loc 6) (.list .nil))) (.val (.cmp .Eq (.sub (.sub (.loc 6) (.neg (.const (.int (1))))) (.const (.int (1)))) (.bin .Sub (.loc 4) (.const (.int (1))))))) (.cons (.seti (.loc 6) (.neg (.const (.int (1)))) (.tuple (.cons (.sub (.sub (.loc 6) (.neg (.const (.int (1))))) (.const (.int (0)))) (.cons (.loc 4) .nil))))
 .nil) (.cons (.expr (.bmeth .append (.loc 6) (.cons (.tuple (.cons (.loc 4) (.cons (.loc 4) .nil))) .nil)))
 .nil))
 .nil))
 (.cons (.ret (.bin .Add (.bin .Add (.const (.str ("{"))) (.bmeth .join (.const (.str (", "))) (.cons (.comp [7,8] true (.of (.loc 6)) .nil (.ite (.val (.cmp .Eq (.loc 7) (.loc 8))) (.blt .str (.cons (.loc 7) .nil)) (.bin .Add (.bin .Add (.blt .str (.cons (.loc 7) .nil)) (.const (.str ("..")))) (.blt .str (.cons (.loc 8) .nil))))) .nil))) (.const (.str ("}")))))
 .nil)))) .nil)
 (.cons (.ret (.sub (.list (.cons (.blt .str (.cons (.attr (.loc 2) 18) .nil)) (.cons (.bin .Add (.bin .Add (.const (.str ("CHR("))) (.blt .str (.cons (.attr (.loc 2) 18) .nil))) (.const (.str (")")))) (.cons (.ite (.val (.cmp .Eq (.loc 3) (.const (.int (2))))) (.sub (.list (.cons (.const (.str ("FALSE"))) (.cons (.const (.str ("TRUE"))) .nil))) (.attr (.loc 2) 18)) (.const (.str ("")))) (.cons (.const (.str (""))) (.cons (.const (.str ("\"ab\""))) .nil)))))) (.loc 3)))
 .nil)))))
noncomputable def jQa:ISs:=(.cons (.setl 3 (.dict [] .nil))
 (.cons (.for [4] false (.range (.blt .len (.cons (.loc 0) .nil))) (.cons (.setl 5 (.sub (.loc 0) (.loc 4)))
 (.cons (.setl 6 (.and (.cmp .Eq (.attr (.loc 5) 13) (.const (.str ("type")))) (.cmp .NotIn (.attr (.attr (.loc 5) 14) 1) (.list (.cons (.const (.str ("integer"))) (.cons (.const (.str ("char"))) (.cons (.const (.str ("set"))) .nil)))))))
 (.cons (.ite (.and (.val (.loc 6)) (.and (.or (.val (.cmp .Lt (.loc 4) (.loc 1))) (.val (.cmp .NotIn (.attr (.loc 5) 12) (.loc 2)))) (.val (.cmp .NotIn (.attr (.attr (.loc 5) 14) 0) (.loc 3))))) (.cons (.seti (.loc 3) (.attr (.attr (.loc 5) 14) 0) (.attr (.loc 5) 12))
 .nil) .nil)
 .nil))))
 (.cons (.ret (.loc 3))
 .nil)))
noncomputable def lHa:ISs:=(.cons (.setl 1 (.sub (.loc 0) .dead))
 (.cons (.setl 2 (.list (.cons (.loc 1) (.cons (.const (.int (0))) (.cons (.const (.int (0))) (.cons (.bin .Mult (.bin .Mod (.blt .sum (.cons (.loc 1) .nil)) (.const (.int (100003)))) (.const (.int (7)))) .nil))))))
 (.cons (.setl 3 (.make .tys .initTys .nil))
 (.cons (.setl 4 (.ometh .new .tys (.loc 3) (.cons (.const (.str ("record"))) (.cons (.const (.int (4))) (.cons (.const (.str ("N"))) (.cons (.const (.str ("R"))) .nil))))))
 (.cons (.setl 5 (.list (.cons (.attr (.loc 3) 34) (.cons (.attr (.loc 3) 32) (.cons (.attr (.loc 3) 35) (.cons (.loc 4) .nil))))))
 (.cons (.setl 6 (.make .ifc .initIfc (.cons (.const (.str ("M"))) (.cons (.const (.int (1))) .nil))))
 (.cons (.ite (.val (.cmp .Eq (.call .pick (.cons (.loc 2) (.cons (.const (.int (2))) .nil))) (.const (.int (1))))) (.cons (.seta (.loc 6) 25 (.list (.cons (.tuple (.cons (.const (.str ("N"))) (.cons (.const (.int (7))) .nil))) .nil)))
 .nil) .nil)
 (.cons (.setl 7 (.dict [] .nil))
 (.cons (.setl 8 (.list .nil))
 (.cons (.setl 9 (.list .nil))
 (.cons (.for [10] false (.range (.call .pick (.cons (.loc 2) (.cons (.const (.int (7))) .nil)))) (.cons (.setl 11 (.sub (.list (.cons (.const (.str ("const"))) (.cons (.const (.str ("type"))) (.cons (.const (.str ("var"))) (.cons (.const (.str ("proc"))) .nil))))) (.call .pick (.cons (.loc 2) (.cons (.const (.int (4))) .nil)))))
 (.cons (.setl 12 (.make .ob .initOb (.cons (.bin .Add (.sub (.const (.str ("cTvP"))) (.bmeth .index (.list (.cons (.const (.str ("const"))) (.cons (.const (.str ("type"))) (.cons (.const (.str ("var"))) (.cons (.const (.str ("proc"))) .nil))))) (.cons (.loc 11) .nil))) (.blt .str (.cons (.loc 10) .nil))) (.cons (.loc 11) (.cons (.attr (.loc 3) 37) (.cons (.const (.int (0))) .nil))))))
 (.cons (.ite (.val (.cmp .Eq (.loc 11) (.const (.str ("const"))))) (.cons (.seti (.loc 7) (.attr (.loc 12) 12) (.call .lconstant (.cons (.loc 2) (.cons (.loc 3) (.cons (.loc 12) .nil)))))
 .nil) (.cons (.ite (.val (.cmp .Eq (.loc 11) (.const (.str ("proc"))))) (.cons (.seta (.loc 12) 14 (.ometh .new .tys (.loc 3) (.cons (.const (.str ("proc"))) (.cons (.const (.int (4))) (.cons (.const (.str ("M"))) (.cons (.attr (.loc 12) 12) .nil))))))
 (.cons (.for [13] false (.range (.call .pick (.cons (.loc 2) (.cons (.const (.int (4))) .nil)))) (.cons (.setl 14 (.make .ob .initOb (.cons (.sub (.const (.str ("xyz"))) (.loc 13)) (.cons (.sub (.list (.cons (.const (.str ("var"))) (.cons (.const (.str ("par"))) .nil))) (.call .pick (.cons (.loc 2) (.cons (.const (.int (2))) .nil)))) (.cons (.sub (.loc 5) (.call .pick (.cons (.loc 2) (.cons (.blt .len (.cons (.loc 5) .nil)) .nil)))) (.cons (.const (.int (0))) .nil))))))
 (.cons (.seta (.loc 14) 17 (.and (.cmp .Eq (.attr (.loc 14) 13) (.const (.str ("par")))) (.cmp .Eq (.call .pick (.cons (.loc 2) (.cons (.const (.int (2))) .nil))) (.const (.int (1))))))
 (.cons (.expr (.bmeth .append (.attr (.attr (.loc 12) 14) 7) (.cons (.loc 14) .nil)))
 .nil))))
 (.cons (.seta (.attr (.loc 12) 14) 3 (.sub (.list (.cons (.attr (.loc 3) 37) (.cons (.attr (.loc 3) 34) .nil))) (.call .pick (.cons (.loc 2) (.cons (.const (.int (2))) .nil)))))
 .nil))) (.cons (.seta (.loc 12) 14 (.call .lmade (.cons (.loc 2) (.cons (.loc 3) (.cons (.loc 5) (.cons (.attr (.loc 12) 12) .nil))))))
 (.cons (.ite (.and (.val (.cmp .Eq (.loc 11) (.const (.str ("type"))))) (.and (.val (.cmp .NotEq (.attr (.attr (.loc 12) 14) 9) (.attr (.loc 12) 12))) (.not (.val (.bmeth .startswith (.attr (.attr (.loc 12) 14) 9) (.cons (.const (.str ("T"))) .nil)))))) (.cons (.seta (.loc 12) 14 (.ite (.val (.cmp .In (.attr (.attr (.loc 12) 14) 0) (.loc 9))) (.attr (.loc 3) 34) (.attr (.loc 12) 14)))
 (.cons (.expr (.bmeth .append (.loc 9) (.cons (.attr (.attr (.loc 12) 14) 0) .nil)))
 .nil)) .nil)
 (.cons (.expr (.bmeth .append (.loc 5) (.cons (.attr (.loc 12) 14) .nil)))
 (.cons (.ite (.and (.val (.cmp .Eq (.loc 11) (.const (.str ("type"))))) (.val (.cmp .NotEq (.attr (.attr (.loc 12) 14) 9) (.attr (.loc 12) 12)))) (.cons (.expr (.bmeth .append (.loc 8) (.cons (.attr (.loc 12) 12) .nil)))
 .nil) .nil)
 .nil)))))
 .nil))
 (.cons (.expr (.bmeth .append (.attr (.loc 6) 24) (.cons (.loc 12) .nil)))
 .nil)))))
 (.cons (.setl 15 (.call .lnamed (.cons (.attr (.loc 6) 24) (.cons (.blt .len (.cons (.attr (.loc 6) 24) .nil)) (.cons (.loc 8) .nil)))))
 (.cons (.setl 16 (.bin .Add (.list (.cons (.const (.str ("DEFINITION M;"))) .nil)) (.ite (.val (.cmp .NotEq (.attr (.loc 6) 25) (.list .nil))) (.list (.cons (.const (.str ("  IMPORT N;"))) .nil)) (.list .nil))))
 (.cons (.for [11,17] true (.of (.list (.cons (.tuple (.cons (.const (.str ("const"))) (.cons (.const (.str ("  CONST"))) .nil))) (.cons (.tuple (.cons (.const (.str ("type"))) (.cons (.const (.str ("  TYPE"))) .nil))) (.cons (.tuple (.cons (.const (.str ("var"))) (.cons (.const (.str ("  VAR"))) .nil))) .nil))))) (.cons (.setl 18 (.list .nil))
 (.cons (.for [10] false (.range (.blt .len (.cons (.attr (.loc 6) 24) .nil))) (.cons (.setl 19 (.sub (.attr (.loc 6) 24) (.loc 10)))
 (.cons (.ite (.val (.cmp .Eq (.attr (.loc 19) 13) (.loc 11))) (.cons (.setl 20 (.bmeth .get (.loc 7) (.cons (.attr (.loc 19) 12) (.cons (.const (.str (""))) .nil))))
 (.cons (.setl 21 (.call .lnamed (.cons (.attr (.loc 6) 24) (.cons (.loc 10) (.cons (.loc 8) .nil)))))
 (.cons (.ite (.val (.cmp .Eq (.loc 11) (.const (.str ("type"))))) (.cons (.setl 20 (.ite (.val (.cmp .In (.attr (.loc 19) 12) (.loc 8))) (.call .ltext (.cons (.loc 21) (.cons (.attr (.loc 19) 14) .nil))) (.call .lstructure (.cons (.loc 21) (.cons (.attr (.loc 19) 14) .nil)))))
 .nil) (.cons (.ite (.val (.cmp .Eq (.loc 11) (.const (.str ("var"))))) (.cons (.setl 20 (.call .ltext (.cons (.loc 15) (.cons (.attr (.loc 19) 14) .nil))))
 .nil) .nil)
 .nil))
 (.cons (.expr (.bmeth .append (.loc 18) (.cons (.bin .Add (.bin .Add (.bin .Add (.bin .Add (.const (.str ("    "))) (.attr (.loc 19) 12)) (.ite (.val (.cmp .Eq (.loc 11) (.const (.str ("var"))))) (.const (.str (": "))) (.const (.str (" = "))))) (.loc 20)) (.const (.str (";")))) .nil)))
 .nil)))) .nil)
 .nil)))
 (.cons (.augl 16 (.ite (.val (.cmp .NotEq (.loc 18) (.list .nil))) (.bin .Add (.list (.cons (.loc 17) .nil)) (.loc 18)) (.list .nil)))
 .nil))))
 (.cons (.augl 16 (.comp [22] false (.of (.attr (.loc 6) 24)) (.cons (.val (.cmp .Eq (.attr (.loc 22) 13) (.const (.str ("proc"))))) .nil) (.bin .Add (.bin .Add (.bin .Add (.const (.str ("  PROCEDURE "))) (.attr (.loc 22) 12)) (.call .lsignature (.cons (.loc 15) (.cons (.attr (.loc 22) 14) .nil)))) (.const (.str (";"))))))
 (.cons (.ret (.cmp .Eq (.call .definition_text (.cons (.loc 6) .nil)) (.bin .Add (.bmeth .join (.const (.str ("\n"))) (.cons (.bin .Add (.loc 16) (.list (.cons (.const (.str ("END M."))) .nil))) .nil)) (.const (.str ("\n"))))))
 .nil))))))))))))))))
noncomputable def uUa:ISs:=(.cons (.ite (.val (.cmp .GtE (.loc 0) (.const (.int (0))))) (.cons (.ret (.blt .str (.cons (.loc 0) .nil)))
 .nil) .nil)
 (.cons (.ret (.bin .Add .dead (.const (.str ("H")))))
 .nil))
noncomputable def sBa:ISs:=(.cons (.ite (.and (.val (.cmp .Eq (.blt .len (.cons (.loc 0) .nil)) (.const (.int (1))))) (.not (.val .dead))) (.cons (.ret (.bin .Add .dead (.const (.str ("X")))))
 .nil) .nil)
 (.cons (.ret (.bin .Add (.bin .Add (.const (.str ("\""))) (.loc 0)) (.const (.str ("\"")))))
 .nil))
noncomputable def tPa:ISs:=(.cons (.setl 1 (.list .nil))
 (.cons (.setl 2 (.const (.int (0))))
 (.cons (.while (.val (.cmp .Lt (.loc 2) (.const (.int (32))))) (.cons (.ite (.val (.cmp .Eq (.bin .BitAnd (.bin .RShift (.loc 0) (.loc 2)) (.const (.int (1)))) (.const (.int (1))))) (.cons (.setl 3 (.loc 2))
 (.cons (.while (.and (.val (.cmp .Lt (.loc 2) (.const (.int (31))))) (.val (.cmp .Eq (.bin .BitAnd (.bin .RShift (.loc 0) (.bin .Add (.loc 2) (.const (.int (1))))) (.const (.int (1)))) (.const (.int (1)))))) (.cons (.augl 2 (.const (.int (1))))
 .nil))
 (.cons (.expr (.bmeth .append (.loc 1) (.cons (.ite (.val (.cmp .Eq (.loc 3) (.loc 2))) (.blt .str (.cons (.loc 3) .nil)) (.bin .Add (.bin .Add (.blt .str (.cons (.loc 3) .nil)) (.const (.str ("..")))) (.blt .str (.cons (.loc 2) .nil)))) .nil)))
 .nil))) .nil)
 (.cons (.augl 2 (.const (.int (1))))
 .nil)))
 (.cons (.ret (.bin .Add (.bin .Add (.const (.str ("{"))) (.bmeth .join (.const (.str (", "))) (.cons (.loc 1) .nil))) (.const (.str ("}")))))
 .nil))))
noncomputable def tMa:ISs:=(.cons (.ite (.or (.val (.ometh .is_taken .nms (.loc 0) (.cons (.const (.str ("TRUE"))) .nil))) (.val (.ometh .is_taken .nms (.loc 0) (.cons (.const (.str ("FALSE"))) .nil)))) (.cons (.ret (.ite (.val (.cmp .Eq (.loc 1) (.const (.int (1))))) (.const (.str ("(0 = 0)"))) (.const (.str ("(0 # 0)")))))
 .nil) .nil)
 (.cons (.ret (.ite (.val (.cmp .Eq (.loc 1) (.const (.int (1))))) (.const (.str ("TRUE"))) (.const (.str ("FALSE")))))
 .nil))
noncomputable def mWa:ISs:=(.cons (.ite (.val (.cmp .Eq (.attr (.loc 1) 1) (.const (.str ("char"))))) (.cons (.ite (.val (.ometh .is_taken .nms (.loc 0) (.cons (.const (.str ("CHR"))) .nil))) (.cons (.ret .dead)
 .nil) .nil)
 (.cons (.ret (.bin .Add (.bin .Add (.const (.str ("CHR("))) (.blt .str (.cons (.loc 2) .nil))) (.const (.str (")")))))
 .nil)) .nil)
 (.cons (.ret (.call .constant_text (.cons (.loc 0) (.cons (.loc 1) (.cons (.loc 2) .nil)))))
 .nil))
noncomputable def kLa:ISs:=(.cons (.ite (.val (.cmp .Eq (.attr (.loc 1) 1) (.const (.str ("integer"))))) (.cons (.ret (.call .whole_text (.cons (.loc 2) .nil)))
 .nil) .nil)
 (.cons (.ite (.val (.cmp .Eq (.attr (.loc 1) 1) (.const (.str ("byte"))))) (.cons (.ret .dead)
 .nil) .nil)
 (.cons (.ite (.val (.cmp .Eq (.attr (.loc 1) 1) (.const (.str ("char"))))) (.cons (.ret (.call .string_text (.cons .dead .nil)))
 .nil) .nil)
 (.cons (.ite (.val (.cmp .Eq (.attr (.loc 1) 1) (.const (.str ("boolean"))))) (.cons (.ret (.call .truth_text (.cons (.loc 0) (.cons (.loc 2) .nil))))
 .nil) .nil)
 (.cons (.ite (.val (.cmp .Eq (.attr (.loc 1) 1) (.const (.str ("set"))))) (.cons (.ret (.call .set_text (.cons (.loc 2) .nil)))
 .nil) .nil)
 (.cons (.ite (.val (.cmp .Eq (.attr (.loc 1) 1) (.const (.str ("string"))))) (.cons (.ret (.call .string_text (.cons (.loc 2) .nil)))
 .nil) .nil)
 (.cons (.ret (.const (.str ("NIL"))))
 .nil)))))))
noncomputable def wQa:ISs:=(.cons (.ret (.dict ["boolean","char","byte","integer","set"] (.cons (.const (.str ("BOOLEAN"))) (.cons (.const (.str ("CHAR"))) (.cons (.const (.str ("BYTE"))) (.cons (.const (.str ("INTEGER"))) (.cons (.const (.str ("SET"))) .nil)))))))
 .nil)
noncomputable def nDa:ISs:=(.cons (.for [1] false (.of (.loc 0)) (.cons (.ite (.not (.or (.val (.bmeth .isalpha (.loc 1) .nil)) (.val .dead))) (.cons (.ret (.const (.bool false)))
 .nil) .nil)
 .nil))
 (.cons (.ret (.cmp .NotEq (.loc 0) (.const (.str ("")))))
 .nil))
noncomputable def nMa:ISs:=(.cons (.setl 2 (.const (.int (0))))
 (.cons (.setl 3 (.loc 0))
 (.cons (.while (.val (.cmp .In (.loc 3) (.loc 1))) (.cons (.augl 2 (.const (.int (1))))
 (.cons (.setl 3 (.bin .Add (.loc 0) (.blt .str (.cons (.loc 2) .nil))))
 .nil)))
 (.cons (.ret (.loc 3))
 .nil))))
noncomputable def rDa:ISs:=(.cons (.setl 2 (.ometh .name_of .nms (.loc 0) (.cons (.loc 1) .nil)))
 (.cons (.ite (.val (.cmp .IsNot (.loc 2) (.const (.none)))) (.cons (.ret (.loc 2))
 .nil) .nil)
 (.cons (.ret (.call .structure_text (.cons (.loc 0) (.cons (.loc 1) .nil))))
 .nil)))
noncomputable def uIa:ISs:=(.cons (.ite (.val (.cmp .Eq (.attr (.loc 1) 1) (.const (.str ("array"))))) (.cons (.ite (.val (.cmp .Lt (.attr (.loc 1) 4) (.const (.int (0))))) (.cons (.ret (.bin .Add (.const (.str ("ARRAY OF "))) (.call .type_text (.cons (.loc 0) (.cons (.attr (.loc 1) 3) .nil)))))
 .nil) .nil)
 (.cons (.ret (.bin .Add (.bin .Add (.bin .Add (.const (.str ("ARRAY "))) (.blt .str (.cons (.attr (.loc 1) 4) .nil))) (.const (.str (" OF ")))) (.call .type_text (.cons (.loc 0) (.cons (.attr (.loc 1) 3) .nil)))))
 .nil)) .nil)
 (.cons (.ite (.val (.cmp .Eq (.attr (.loc 1) 1) (.const (.str ("record"))))) (.cons (.ret (.call .record_text (.cons (.loc 0) (.cons (.loc 1) (.cons (.comp [2] false (.of (.attr (.loc 1) 5)) (.cons (.or (.val (.attr (.loc 0) 28)) (.val (.attr (.loc 2) 16))) .nil) (.loc 2)) .nil)))))
 .nil) .nil)
 (.cons (.ite (.val (.cmp .Eq (.attr (.loc 1) 1) (.const (.str ("pointer"))))) (.cons (.ret (.bin .Add (.const (.str ("POINTER TO "))) (.call .type_text (.cons (.loc 0) (.cons (.attr (.loc 1) 3) .nil)))))
 .nil) .nil)
 (.cons (.ite (.val (.cmp .Eq (.attr (.loc 1) 1) (.const (.str ("proc"))))) (.cons (.ret (.bin .Add (.const (.str ("PROCEDURE"))) (.call .signature_text (.cons (.loc 0) (.cons (.loc 1) .nil)))))
 .nil) .nil)
 (.cons (.ret .dead)
 .nil)))))
noncomputable def xHa:ISs:=(.cons (.ret (.bin .Add (.attr (.loc 1) 12) (.ite (.and (.val (.attr (.loc 1) 16)) (.val (.attr (.loc 0) 28))) (.const (.str ("*"))) (.const (.str (""))))))
 .nil)
noncomputable def nVa:ISs:=(.cons (.setl 1 (.list .nil))
 (.cons (.for [2] false (.of (.loc 0)) (.cons (.ite (.val (.cmp .Gt (.blt .len (.cons (.loc 1) .nil)) (.const (.int (0))))) (.cons (.setl 3 (.sub (.sub (.loc 1) (.neg (.const (.int (1))))) (.neg (.const (.int (1))))))
 (.cons (.ite (.and (.val (.cmp .Eq (.attr (.attr (.loc 3) 14) 0) (.attr (.attr (.loc 2) 14) 0))) (.val (.cmp .Eq (.call .is_variable (.cons (.loc 3) .nil)) (.call .is_variable (.cons (.loc 2) .nil))))) (.cons (.expr (.bmeth .append (.sub (.loc 1) (.neg (.const (.int (1))))) (.cons (.loc 2) .nil)))
 (.cons .cont
 .nil)) .nil)
 .nil)) .nil)
 (.cons (.expr (.bmeth .append (.loc 1) (.cons (.list (.cons (.loc 2) .nil)) .nil)))
 .nil)))
 (.cons (.ret (.loc 1))
 .nil)))
noncomputable def wUa:ISs:=(.cons (.ret (.and (.cmp .Eq (.attr (.loc 0) 13) (.const (.str ("par")))) (.not (.attr (.loc 0) 17))))
 .nil)
noncomputable def qSa:ISs:=(.cons (.setl 3 (.const (.str ("RECORD"))))
 (.cons (.ite (.val (.cmp .IsNot (.attr (.loc 1) 3) (.const (.none)))) (.cons (.setl 3 (.bin .Add (.bin .Add (.bin .Add (.loc 3) (.const (.str (" (")))) (.call .type_text (.cons (.loc 0) (.cons (.attr (.loc 1) 3) .nil)))) (.const (.str (")")))))
 .nil) .nil)
 (.cons (.setl 4 (.list .nil))
 (.cons (.for [5] false (.of (.call .grouped (.cons (.loc 2) .nil))) (.cons (.setl 6 (.bmeth .join (.const (.str (", "))) (.cons (.comp [7] false (.of (.loc 5)) .nil (.call .marked_name (.cons (.loc 0) (.cons (.loc 7) .nil)))) .nil)))
 (.cons (.expr (.bmeth .append (.loc 4) (.cons (.bin .Add (.bin .Add (.loc 6) (.const (.str (": ")))) (.call .type_text (.cons (.loc 0) (.cons (.attr (.sub (.loc 5) (.const (.int (0)))) 14) .nil)))) .nil)))
 .nil)))
 (.cons (.ite (.val (.cmp .Eq (.blt .len (.cons (.loc 4) .nil)) (.const (.int (0))))) (.cons (.ret (.bin .Add (.loc 3) (.const (.str (" END")))))
 .nil) .nil)
 (.cons (.ret (.bin .Add (.bin .Add (.bin .Add (.loc 3) (.const (.str (" ")))) (.bmeth .join (.const (.str ("; "))) (.cons (.loc 4) .nil))) (.const (.str (" END")))))
 .nil))))))
noncomputable def lYa:ISs:=(.cons (.ite (.and (.val (.cmp .Eq (.blt .len (.cons (.attr (.loc 1) 7) .nil)) (.const (.int (0))))) (.val (.cmp .Eq (.attr (.attr (.loc 1) 3) 1) (.const (.str ("none")))))) (.cons (.ret (.const (.str (""))))
 .nil) .nil)
 (.cons (.setl 2 (.list .nil))
 (.cons (.for [3] false (.of (.call .grouped (.cons (.attr (.loc 1) 7) .nil))) (.cons (.setl 4 (.bmeth .join (.const (.str (", "))) (.cons (.comp [7] false (.of (.loc 3)) .nil (.attr (.loc 7) 12)) .nil)))
 (.cons (.setl 5 (.ite (.val (.call .is_variable (.cons (.sub (.loc 3) (.const (.int (0)))) .nil))) (.const (.str ("VAR "))) (.const (.str ("")))))
 (.cons (.expr (.bmeth .append (.loc 2) (.cons (.bin .Add (.bin .Add (.bin .Add (.loc 5) (.loc 4)) (.const (.str (": ")))) (.call .type_text (.cons (.loc 0) (.cons (.attr (.sub (.loc 3) (.const (.int (0)))) 14) .nil)))) .nil)))
 .nil))))
 (.cons (.setl 6 (.bin .Add (.bin .Add (.const (.str (" ("))) (.bmeth .join (.const (.str ("; "))) (.cons (.loc 2) .nil))) (.const (.str (")")))))
 (.cons (.ite (.val (.cmp .NotEq (.attr (.attr (.loc 1) 3) 1) (.const (.str ("none"))))) (.cons (.setl 6 (.bin .Add (.bin .Add (.loc 6) (.const (.str (": ")))) (.call .type_text (.cons (.loc 0) (.cons (.attr (.loc 1) 3) .nil)))))
 .nil) .nil)
 (.cons (.ret (.loc 6))
 .nil))))))
noncomputable def mLa:ISs:=(.cons (.ret (.and (.cmp .Eq (.attr (.attr (.loc 1) 14) 8) (.attr (.loc 0) 8)) (.cmp .Eq (.attr (.attr (.loc 1) 14) 9) (.attr (.loc 1) 12))))
 .nil)
noncomputable def xKa:ISs:=(.cons (.setl 4 (.comp [6] false (.of (.tail (.loc 1) (.loc 2))) (.cons (.and (.val (.cmp .Eq (.attr (.loc 6) 13) (.const (.str ("type"))))) (.not (.val (.call .defines (.cons (.loc 0) (.cons (.loc 6) .nil)))))) .nil) (.loc 6)))
 (.cons (.for [3] false (.of (.loc 4)) (.cons (.expr (.bmeth .pop (.sub (.attr (.loc 0) 27) (.neg (.const (.int (1))))) (.cons (.attr (.loc 3) 12) (.cons (.const (.none)) .nil))))
 .nil))
 (.cons (.ite (.val (.call .defines (.cons (.loc 0) (.cons (.sub (.loc 1) (.loc 2)) .nil)))) (.cons (.setl 5 (.call .structure_text (.cons (.loc 0) (.cons (.attr (.sub (.loc 1) (.loc 2)) 14) .nil))))
 .nil) (.cons (.setl 5 (.call .type_text (.cons (.loc 0) (.cons (.attr (.sub (.loc 1) (.loc 2)) 14) .nil))))
 .nil))
 (.cons (.for [3] false (.of (.loc 4)) (.cons (.expr (.ometh .enter .nms (.loc 0) (.cons (.attr (.loc 3) 12) (.cons (.attr (.attr (.loc 3) 14) 0) .nil))))
 .nil))
 (.cons (.ret (.loc 5))
 .nil)))))
noncomputable def pUa:ISs:=(.cons (.ret (.ite (.val (.cmp .Gt (.blt .len (.cons (.loc 1) .nil)) (.const (.int (0))))) (.bin .Add (.list (.cons (.loc 0) .nil)) (.loc 1)) (.list .nil)))
 .nil)
noncomputable def lRa:ISs:=(.cons (.setl 2 (.comp [4] false (.of (.attr (.loc 0) 24)) .nil (.attr (.loc 4) 12)))
 (.cons (.setl 3 (.make .nms .initNms (.cons (.attr (.loc 0) 12) (.cons (.comp [4] false (.of (.attr (.loc 0) 25)) .nil (.sub (.loc 4) (.const (.int (0))))) (.cons (.loc 2) .nil)))))
 (.cons (.seta (.loc 3) 28 (.const (.bool false)))
 (.cons (.for [1] false (.of (.attr (.loc 0) 24)) (.cons (.expr (.ometh .enter .nms (.loc 3) (.cons (.attr (.loc 1) 12) (.cons (.ite (.val (.cmp .Eq (.attr (.loc 1) 13) (.const (.str ("type"))))) (.attr (.attr (.loc 1) 14) 0) (.neg (.const (.int (1))))) .nil))))
 .nil))
 (.cons (.ret (.loc 3))
 .nil)))))
noncomputable def jLa:ISs:=(.cons (.setl 3 (.list .nil))
 (.cons (.for [4] false (.range (.blt .len (.cons (.attr (.loc 1) 24) .nil))) (.cons (.setl 5 (.sub (.attr (.loc 1) 24) (.loc 4)))
 (.cons (.ite (.val (.cmp .NotEq (.attr (.loc 5) 13) (.loc 2))) (.cons .cont
 .nil) .nil)
 (.cons (.ite (.val (.cmp .Eq (.loc 2) (.const (.str ("const"))))) (.cons (.expr (.bmeth .append (.loc 3) (.cons (.bin .Add (.bin .Add (.bin .Add (.bin .Add (.const (.str ("    "))) (.attr (.loc 5) 12)) (.const (.str (" = ")))) (.call .typed_constant (.cons (.loc 0) (.cons (.attr (.loc 5) 14) (.cons (.attr (.loc 5) 18) .nil))))) (.const (.str (";")))) .nil)))
 .nil) (.cons (.ite (.val (.cmp .Eq (.loc 2) (.const (.str ("type"))))) (.cons (.setl 6 (.call .declared_text (.cons (.loc 0) (.cons (.attr (.loc 1) 24) (.cons (.loc 4) .nil)))))
 (.cons (.expr (.bmeth .append (.loc 3) (.cons (.bin .Add (.bin .Add (.bin .Add (.bin .Add (.const (.str ("    "))) (.attr (.loc 5) 12)) (.const (.str (" = ")))) (.loc 6)) (.const (.str (";")))) .nil)))
 .nil)) (.cons (.ite (.val (.cmp .Eq (.loc 2) (.const (.str ("var"))))) (.cons (.expr (.bmeth .append (.loc 3) (.cons (.bin .Add (.bin .Add (.bin .Add (.bin .Add (.const (.str ("    "))) (.attr (.loc 5) 12)) (.const (.str (": ")))) (.call .type_text (.cons (.loc 0) (.cons (.attr (.loc 5) 14) .nil)))) (.const (.str (";")))) .nil)))
 .nil) (.cons (.expr (.bmeth .append (.loc 3) (.cons (.bin .Add (.bin .Add (.bin .Add (.const (.str ("  PROCEDURE "))) (.attr (.loc 5) 12)) (.call .signature_text (.cons (.loc 0) (.cons (.attr (.loc 5) 14) .nil)))) (.const (.str (";")))) .nil)))
 .nil))
 .nil))
 .nil))
 .nil))))
 (.cons (.ret (.loc 3))
 .nil)))
noncomputable def tLa:ISs:=(.cons (.setl 1 (.call .interface_names (.cons (.loc 0) .nil)))
 (.cons (.setl 2 (.list (.cons (.bin .Add (.bin .Add (.const (.str ("DEFINITION "))) (.attr (.loc 0) 12)) (.const (.str (";")))) .nil)))
 (.cons (.ite (.val (.cmp .Gt (.blt .len (.cons (.attr (.loc 0) 25) .nil)) (.const (.int (0))))) (.cons (.expr (.bmeth .append (.loc 2) (.cons (.bin .Add (.bin .Add (.const (.str ("  IMPORT "))) (.bmeth .join (.const (.str (", "))) (.cons (.comp [3] false (.of (.attr (.loc 0) 25)) .nil (.sub (.loc 3) (.const (.int (0))))) .nil))) (.const (.str (";")))) .nil)))
 .nil) .nil)
 (.cons (.setl 2 (.bin .Add (.loc 2) (.call .section_ (.cons (.const (.str ("  CONST"))) (.cons (.call .object_rows (.cons (.loc 1) (.cons (.loc 0) (.cons (.const (.str ("const"))) .nil)))) .nil)))))
 (.cons (.setl 2 (.bin .Add (.loc 2) (.call .section_ (.cons (.const (.str ("  TYPE"))) (.cons (.call .object_rows (.cons (.loc 1) (.cons (.loc 0) (.cons (.const (.str ("type"))) .nil)))) .nil)))))
 (.cons (.setl 2 (.bin .Add (.loc 2) (.call .section_ (.cons (.const (.str ("  VAR"))) (.cons (.call .object_rows (.cons (.loc 1) (.cons (.loc 0) (.cons (.const (.str ("var"))) .nil)))) .nil)))))
 (.cons (.setl 2 (.bin .Add (.loc 2) (.call .object_rows (.cons (.loc 1) (.cons (.loc 0) (.cons (.const (.str ("proc"))) .nil))))))
 (.cons (.ret (.bin .Add (.bmeth .join (.const (.str ("\n"))) (.cons (.bin .Add (.loc 2) (.list (.cons (.bin .Add (.bin .Add (.const (.str ("END "))) (.attr (.loc 0) 12)) (.const (.str (".")))) .nil))) .nil)) (.const (.str ("\n")))))
 .nil))))))))
noncomputable def rLa:ISs:=(.cons (.seta (.loc 0) 0 (.loc 1))
 (.cons (.seta (.loc 0) 1 (.loc 2))
 (.cons (.seta (.loc 0) 2 (.loc 3))
 (.cons (.seta (.loc 0) 3 (.const (.none)))
 (.cons (.seta (.loc 0) 4 (.const (.int (0))))
 (.cons (.seta (.loc 0) 5 (.list .nil))
 (.cons (.seta (.loc 0) 6 (.const (.int (0))))
 (.cons (.seta (.loc 0) 7 (.list .nil))
 (.cons (.seta (.loc 0) 8 (.const (.str (""))))
 (.cons (.seta (.loc 0) 9 (.const (.str (""))))
 (.cons (.seta (.loc 0) 10 (.list .nil))
 (.cons (.seta (.loc 0) 11 (.const (.int (0))))
 .nil))))))))))))
noncomputable def lPa:ISs:=(.cons (.seta (.loc 0) 12 (.loc 1))
 (.cons (.seta (.loc 0) 13 (.loc 2))
 (.cons (.seta (.loc 0) 14 (.loc 3))
 (.cons (.seta (.loc 0) 15 (.loc 4))
 (.cons (.seta (.loc 0) 16 (.const (.bool false)))
 (.cons (.seta (.loc 0) 17 (.const (.bool false)))
 (.cons (.seta (.loc 0) 6 (.const (.int (0))))
 (.cons (.seta (.loc 0) 8 (.const (.str (""))))
 (.cons (.seta (.loc 0) 18 (.const (.none)))
 (.cons (.seta (.loc 0) 19 (.const (.int (0))))
 (.cons (.seta (.loc 0) 20 (.const (.int (0))))
 (.cons (.seta (.loc 0) 0 (.const (.int (0))))
 (.cons (.seta (.loc 0) 21 (.const (.bool false)))
 (.cons (.seta (.loc 0) 22 (.const (.none)))
 .nil))))))))))))))
noncomputable def oXa:ISs:=(.cons (.seta (.loc 0) 12 (.loc 1))
 (.cons (.seta (.loc 0) 23 (.loc 2))
 (.cons (.seta (.loc 0) 24 (.list .nil))
 (.cons (.seta (.loc 0) 25 (.list .nil))
 .nil))))
noncomputable def jFa:ISs:=(.cons (.seta (.loc 0) 29 (.const (.int (0))))
 (.cons (.seta (.loc 0) 30 (.dict [] .nil))
 (.cons (.seta (.loc 0) 31 (.ometh .new .tys (.loc 0) (.cons (.const (.str ("boolean"))) (.cons (.const (.int (1))) .nil))))
 (.cons (.seta (.loc 0) 32 (.ometh .new .tys (.loc 0) (.cons (.const (.str ("char"))) (.cons (.const (.int (1))) .nil))))
 (.cons (.seta (.loc 0) 33 (.ometh .new .tys (.loc 0) (.cons (.const (.str ("byte"))) (.cons (.const (.int (1))) .nil))))
 (.cons (.seta (.loc 0) 34 (.ometh .new .tys (.loc 0) (.cons (.const (.str ("integer"))) (.cons (.const (.int (4))) .nil))))
 (.cons (.seta (.loc 0) 35 (.ometh .new .tys (.loc 0) (.cons (.const (.str ("set"))) (.cons (.const (.int (4))) .nil))))
 (.cons (.seta (.loc 0) 36 (.ometh .new .tys (.loc 0) (.cons (.const (.str ("nil"))) (.cons (.const (.int (4))) .nil))))
 (.cons (.seta (.loc 0) 37 (.ometh .new .tys (.loc 0) (.cons (.const (.str ("none"))) (.cons (.const (.int (0))) .nil))))
 .nil)))))))))
noncomputable def tKa:ISs:=(.cons (.auga (.loc 0) 29 (.const (.int (1))))
 (.cons (.setl 5 (.make .ty .initTy (.cons (.attr (.loc 0) 29) (.cons (.loc 1) (.cons (.loc 2) .nil)))))
 (.cons (.seta (.loc 5) 8 (.loc 3))
 (.cons (.seta (.loc 5) 9 (.loc 4))
 (.cons (.ite (.val (.cmp .NotEq (.loc 4) (.const (.str (""))))) (.cons (.seti (.attr (.loc 0) 30) (.tuple (.cons (.loc 3) (.cons (.loc 4) .nil))) (.loc 5))
 .nil) .nil)
 (.cons (.ret (.loc 5))
 .nil))))))
noncomputable def zR:ISs:=(.cons (.setl 2 (.ometh .new .tys (.loc 0) (.cons (.const (.str ("string"))) (.cons (.loc 1) .nil))))
 (.cons (.seta (.loc 2) 4 (.loc 1))
 (.cons (.seta (.loc 2) 3 (.attr (.loc 0) 32))
 (.cons (.ret (.loc 2))
 .nil))))
noncomputable def jZa:ISs:=(.cons (.seta (.loc 0) 8 (.loc 1))
 (.cons (.seta (.loc 0) 26 (.dict [] .nil))
 (.cons (.seta (.loc 0) 27 (.list (.cons (.dict [] .nil) .nil)))
 (.cons (.seta (.loc 0) 22 (.list .nil))
 (.cons (.seta (.loc 0) 28 (.const (.bool true)))
 (.cons (.setl 4 (.dict [] .nil))
 (.cons (.for [5] false (.of (.loc 3)) (.cons (.seti (.loc 4) (.loc 5) (.const (.bool true)))
 .nil))
 (.cons (.for [5] false (.of (.bin .Add (.blt .list (.cons (.loc 2) .nil)) (.list (.cons (.const (.str ("SYSTEM"))) .nil)))) (.cons (.seti (.attr (.loc 0) 26) (.loc 5) (.call .free_name (.cons (.loc 5) (.cons (.loc 4) .nil))))
 (.cons (.seti (.loc 4) (.sub (.attr (.loc 0) 26) (.loc 5)) (.const (.bool true)))
 .nil)))
 .nil))))))))
noncomputable def sXa:ISs:=(.cons (.seti (.sub (.attr (.loc 0) 27) (.neg (.const (.int (1))))) (.loc 1) (.loc 2))
 .nil)
noncomputable def uPa:ISs:=(.cons (.for [2] false (.of (.attr (.loc 0) 27)) (.cons (.ite (.val (.cmp .In (.loc 1) (.loc 2))) (.cons (.ret (.const (.bool true)))
 .nil) .nil)
 .nil))
 (.cons (.ret (.const (.bool false)))
 .nil))
noncomputable def lJa:ISs:=(.cons (.ret (.bmeth .get (.attr (.loc 0) 26) (.cons (.loc 1) (.cons (.loc 1) .nil))))
 .nil)
noncomputable def qMa:ISs:=(.cons (.ite (.val (.cmp .In (.attr (.loc 1) 1) (.call .basic_names .nil))) (.cons (.ret (.sub (.call .basic_names .nil) (.attr (.loc 1) 1)))
 .nil) .nil)
 (.cons (.setl 2 (.dict [] .nil))
 (.cons (.for [3] false (.rev (.attr (.loc 0) 27)) (.cons (.dfind 4 3 1 2)
 (.cons (.dall 4 3 2)
 .nil)))
 (.cons (.ite (.and (.val (.cmp .NotIn (.attr (.loc 1) 8) (.tuple (.cons (.const (.str (""))) (.cons (.attr (.loc 0) 8) .nil))))) (.val (.call .is_plain (.cons (.attr (.loc 1) 9) .nil)))) (.cons (.ret (.bin .Add (.bin .Add (.ometh .module_name .nms (.loc 0) (.cons (.attr (.loc 1) 8) .nil)) (.const (.str (".")))) (.attr (.loc 1) 9)))
 .nil) .nil)
 (.cons (.ret (.const (.none)))
 .nil)))))
noncomputable def tbl:F→IFn
 | .pick=>⟨2,[],8,pFa⟩
 | .ltext=>⟨2,[],7,wXa⟩
 | .lgrouped=>⟨2,[],10,oGa⟩
 | .lstructure=>⟨2,[],7,uFa⟩
 | .lsignature=>⟨2,[],7,rCa⟩
 | .lmade=>⟨4,[],13,xW⟩
 | .lconstant=>⟨3,[],11,kMa⟩
 | .lnamed=>⟨3,[],11,jQa⟩
 | .law=>⟨1,[],26,lHa⟩
 | .whole_text=>⟨1,[],5,uUa⟩
 | .string_text=>⟨1,[],5,sBa⟩
 | .set_text=>⟨1,[],8,tPa⟩
 | .truth_text=>⟨2,[],6,tMa⟩
 | .typed_constant=>⟨3,[],7,mWa⟩
 | .constant_text=>⟨3,[],7,kLa⟩
 | .basic_names=>⟨0,[],4,wQa⟩
 | .is_plain=>⟨1,[],6,nDa⟩
 | .free_name=>⟨2,[],8,nMa⟩
 | .type_text=>⟨2,[],7,rDa⟩
 | .structure_text=>⟨2,[],6,uIa⟩
 | .marked_name=>⟨2,[],6,xHa⟩
 | .grouped=>⟨1,[],8,nVa⟩
 | .is_variable=>⟨1,[],5,wUa⟩
 | .record_text=>⟨3,[],11,qSa⟩
 | .signature_text=>⟨2,[],11,lYa⟩
 | .defines=>⟨2,[],6,mLa⟩
 | .declared_text=>⟨3,[],10,xKa⟩
 | .section_=>⟨2,[],6,pUa⟩
 | .interface_names=>⟨1,[],8,lRa⟩
 | .object_rows=>⟨3,[],11,jLa⟩
 | .definition_text=>⟨1,[],7,tLa⟩
 | .initTy=>⟨4,[],8,rLa⟩
 | .initOb=>⟨5,[],9,lPa⟩
 | .initIfc=>⟨3,[],7,oXa⟩
 | .initTys=>⟨1,[],5,jFa⟩
 | .new=>⟨5,[(.str ("")),(.str (""))],10,tKa⟩
 | .string=>⟨2,[],7,zR⟩
 | .initNms=>⟨4,[],10,jZa⟩
 | .enter=>⟨3,[],7,sXa⟩
 | .is_taken=>⟨2,[],7,uPa⟩
 | .module_name=>⟨2,[],6,lJa⟩
 | .name_of=>⟨2,[],9,qMa⟩
end Mine
end
section
namespace Mine
theorem gOa:tab = tbl:=funext fun f=>by cases f <;> kernel_rfl
end Mine
end
section
namespace Mine.C
open PySem (Expr Stmt Str Operator CmpOp)
theorem kE {α:Type} {b:Bool} (h:b = true) (x:Option α):aP b x = x:=by subst h; rfl
theorem cR {α:Type} {p:Prop} [Decidable p] (h:p) (x:Option α):aP (decide p) x = x:=kE (decide_eq_true h) x
noncomputable def W {α:Type} (m:Option (α × Heap)) (Q:α→Heap→Prop):Prop:=match m with
 | some p=>Q p.1 p.2
 | .none=>False
theorem W.mono {α:Type} {m:Option (α × Heap)} {Q Q':α→Heap→Prop} (h:W m Q) (k:∀ a H,Q a H→Q' a H):W m Q':=by
 cases m with
 | none=>exact h
 | some p=>exact k _ _ h
inductive cUa {α:Type} (m:Option (α × Heap)) (Q:α→Heap→Prop):Prop where
 | mk (a:α) (H:Heap):m = some (a,H)→Q a H→cUa m Q
theorem W.run {α:Type} {m:Option (α × Heap)} {Q:α→Heap→Prop} (h:W m Q):cUa m Q:=by
 cases m with
 | none=>exact h.elim
 | some p=>exact ⟨_,_,rfl,h⟩
theorem W.of {α:Type} {m:Option (α × Heap)} {Q:α→Heap→Prop} {a:α} {H:Heap} (e:m = some (a,H)) (q:Q a H):W m Q:=by subst e; exact q
theorem bA {α β:Type} {m:Option (α × Heap)} {f:α→Heap→Option (β × Heap)} {Q:β→Heap→Prop} (h:W m fun a H=>W (f a H) Q):W (bnd m f) Q:=by
 cases m with
 | none=>exact h
 | some p=>exact h
theorem jT {α:Type} {o:Option α} {a:α} {H:Heap} {Q:α→Heap→Prop} (h:o = some a) (q:Q a H):W (cD o H) Q:=by subst h; exact q
theorem uY {α β:Type} {o:Option α} {a:α} {f:α→β × Heap} {Q:β→Heap→Prop} (h:o = some a) (q:Q (f a).1 (f a).2):W (o.map f) Q:=by subst h; exact q
theorem rJ {α:Type} {c:Bool} {m n:Option (α × Heap)} {Q:α→Heap→Prop} (ht:c = true→W m Q) (hf:c = false→W n Q):W (ifB c m n) Q:=by
 cases c with
 | true=>exact ht rfl
 | false=>exact hf rfl
inductive G {α:Type} (o:Option α) (P:α→Prop):Prop where
 | mk (a:α):o = some a→P a→G o P
section
variable {cf:aU} {env:Env} {H:Heap} {Q:V→Heap→Prop}
theorem bW {op:Operator} {a b:IE} (h:W (aH cf env a H) fun x H1=>W (aH cf env b H1) fun y H2=>W (iH op x y H2) Q):W (aH cf env (.bin op a b) H) Q :=
 bA (h.mono fun _ _ k=>bA k)
theorem uG {a b:IE} (h:W (aH cf env a H) fun x H1=>∃ t,x = .bool t∧(t = true→W (aH cf env b H1) Q)∧(t = false→Q (.bool false) H1)):W (aH cf env (.and a b) H) Q :=
 bA (h.mono fun x H1 k=>by
  obtain ⟨t,rfl,kt,kf⟩:=k
  cases t with
  | true=>exact kt rfl
  | false=>exact kf rfl)
theorem nQ {t:IT} {a b:IE} (h:W (bZ cf env t H) fun c H1=>(c = true→W (aH cf env a H1) Q)∧(c = false→W (aH cf env b H1) Q)):W (aH cf env (.ite t a b) H) Q :=
 bA (h.mono fun _ _ k=>rJ k.1 k.2)
theorem fW {op:CmpOp} {a b:IE} (h:W (aH cf env a H) fun x H1=>W (aH cf env b H1) fun y H2=>G (lL op x y H2) fun c=>Q (.bool c) H2):W (aH cf env (.cmp op a b) H) Q :=
 bA (h.mono fun _ _ k=>bA (k.mono fun _ _ k=>let ⟨_,e,q⟩:=k; uY e q))
theorem bO {f:F} {as:IEs} (h:W (bN cf env as H) fun vs H1=>W (cf f vs H1) Q):W (aH cf env (.call f as) H) Q:=bA h
theorem tO {c:Cls} {f:F} {as:IEs} (h:W (bN cf env as H) fun vs H1=>H1 ≠ []∧W (cf f (.ref H1.length :: vs) (H1 ++ [.inst c []])) fun r H2=>r = .none∧Q (.ref H1.length) H2):W (aH cf env (.make c f as) H) Q :=
 bA (h.mono fun vs H1 k=>by
  show W (aP (!H1.isEmpty) _) Q
  rw [kE (by cases H1 with | nil=>exact absurd rfl k.1 | cons _ _=>rfl)]
  exact bA (k.2.mono fun r H2 k=>by rw [k.1]; exact k.2))
theorem tSa {b:Blt} {as:IEs} (h:W (bN cf env as H) fun vs H1=>W (lW b vs H1) Q):W (aH cf env (.blt b as) H) Q:=bA h
theorem fO {m:BM} {o:IE} {as:IEs} (h:W (aH cf env o H) fun x H1=>qC m x H1 = true∧W (bN cf env as H1) fun vs H2=>W (dI m x vs H2) Q):W (aH cf env (.bmeth m o as) H) Q :=
 bA (h.mono fun _ _ k=>by rw [kE k.1]; exact bA k.2)
theorem fZ {f:F} {c:Cls} {o:IE} {as:IEs} (h:W (aH cf env o H) fun x H1=>oW c x H1 = true∧W (bN cf env as H1) fun vs H2=>W (cf f (x :: vs) H2) Q):W (aH cf env (.ometh f c o as) H) Q :=
 bA (h.mono fun _ _ k=>by rw [kE k.1]; exact bA k.2)
theorem gC {o i:IE} (h:W (aH cf env o H) fun x H1=>W (aH cf env i H1) fun y H2=>G (subV x y H2) fun u=>Q u H2):W (aH cf env (.sub o i) H) Q :=
 bA (h.mono fun _ _ k=>bA (k.mono fun _ _ k=>let ⟨_,e,q⟩:=k; jT e q))
theorem yN {o i:IE} (h:W (aH cf env o H) fun x H1=>W (aH cf env i H1) fun y H2=>W (uC x y H2) Q):W (aH cf env (.tail o i) H) Q:=bA (h.mono fun _ _ k=>bA k)
theorem bU {as:IEs} (h:W (bN cf env as H) fun vs H1=>W (fC vs H1) Q):W (aH cf env (.list as) H) Q:=bA h
theorem fV {as:IEs} (h:W (bN cf env as H) fun vs H1=>W (rO vs H1) Q):W (aH cf env (.tuple as) H) Q:=bA h
theorem iU {ks:List Str} {as:IEs} (h:W (bN cf env as H) fun vs H1=>W (uX ks vs H1) Q):W (aH cf env (.dict ks as) H) Q:=bA h
theorem mD {t:List Nat} {u:Bool} {i:II} {ifs:ITs} {elt:IE} (h:W (fJ cf env i H) fun it H1 =>
  W (fY it (jV (fun v H=>dX t u v env H) (fun env1 H=>dU cf env1 ifs H) (fun env1 H=>aH cf env1 elt H)) it.items H1) fun vs H2=>W (fC vs H2) Q):W (aH cf env (.comp t u i ifs elt) H) Q :=
 bA (h.mono fun _ _ k=>bA k)
end
section
variable {cf:aU} {env:Env} {H:Heap}
theorem aK {Q:List V→Heap→Prop} (q:Q [] H):W (bN cf env .nil H) Q:=q
theorem cF {e:IE} {r:IEs} {Q:List V→Heap→Prop} (h:W (aH cf env e H) fun v H1=>W (bN cf env r H1) fun vs H2=>Q (v :: vs) H2):W (bN cf env (.cons e r) H) Q :=
 bA (h.mono fun _ _ k=>bA (k.mono fun _ _ q=>q))
theorem jN {a b:IT} {Q:Bool→Heap→Prop} (h:W (bZ cf env a H) fun t H1=>(t = true→W (bZ cf env b H1) Q)∧(t = false→Q false H1)):W (bZ cf env (.and a b) H) Q:=bA (h.mono fun _ _ k=>rJ k.1 k.2)
theorem yR {a b:IT} {Q:Bool→Heap→Prop} (h:W (bZ cf env a H) fun t H1=>(t = true→Q true H1)∧(t = false→W (bZ cf env b H1) Q)):W (bZ cf env (.or a b) H) Q:=bA (h.mono fun _ _ k=>rJ k.1 k.2)
theorem fK {e:IE} {Q:Bool→Heap→Prop} (h:W (aH cf env e H) fun v H1=>G (lH v) fun b=>Q b H1):W (bZ cf env (.val e) H) Q:=bA (h.mono fun _ _ k=>let ⟨_,e,q⟩:=k; jT e q)
theorem vAa {Q:Bool→Heap→Prop} (q:Q true H):W (dU cf env .nil H) Q:=q
theorem mRa {t:IT} {Q:Bool→Heap→Prop} (h:W (bZ cf env t H) Q):W (dU cf env (.cons t .nil) H) Q :=
 bA (h.mono fun b H1 q=>rJ (fun e=>by subst e; exact q) fun e=>by subst e; exact q)
theorem oDa {e:IE} {Q:It→Heap→Prop} (h:W (aH cf env e H) fun v H1=>G (vI v) fun it=>Q it H1):W (fJ cf env (.range e) H) Q:=bA (h.mono fun _ _ k=>let ⟨_,e,q⟩:=k; jT e q)
theorem pDa {e:IE} {Q:It→Heap→Prop} (h:W (aH cf env e H) fun v H1=>G (vP v H1) fun it=>Q it H1):W (fJ cf env (.rev e) H) Q:=bA (h.mono fun _ _ k=>let ⟨_,e,q⟩:=k; jT e q)
theorem gF {e:IE} {Q:It→Heap→Prop} (h:W (aH cf env e H) fun v H1=>G (mX v H1) fun it=>Q it H1):W (fJ cf env (.of e) H) Q:=bA (h.mono fun _ _ k=>let ⟨_,e,q⟩:=k; jT e q)
noncomputable def Aft (cf:aU) (r:ISs) (Q:Fl × Env→Heap→Prop) (x:Fl × Env) (H:Heap):Prop:=match x.1 with
 | .next=>W (aJ cf r x.2 H) Q
 | _=>Q x H
theorem aZ {r:ISs} {Q:Fl × Env→Heap→Prop} (h:W (aJ cf r env H) Q):Aft cf r Q (.next,env) H:=h
theorem gV {s:IS} {r:ISs} {Q:Fl × Env→Heap→Prop} (h:W (fD cf s env H) (Aft cf r Q)):W (aJ cf (.cons s r) env H) Q:=by
 refine bA (m:=fD cf s env H) (f:=fun x H1=>match x.1 with
  | .next=>aJ cf r x.2 H1
  | _=>some (x,H1)) (h.mono fun x H1 k=>?_)
 obtain ⟨fl,e⟩:=x
 cases fl with
 | next=>exact k
 | cont=>exact k
 | ret v=>exact k
theorem aX {Q:Fl × Env→Heap→Prop} (q:Q (.next,env) H):W (aJ cf .nil env H) Q:=q
variable {r:ISs} {Q:Fl × Env→Heap→Prop}
theorem bC {i:Nat} {e:IE} (h:W (aH cf env e H) fun v H1=>W (aJ cf r (bB i v env) H1) Q):W (aJ cf (.cons (.setl i e) r) env H) Q :=
 gV (bA (m:=aH cf env e H) (Q:=Aft cf r Q) (f:=fun v H1=>some ((Fl.next,bB i v env),H1)) (h.mono fun _ _ k=>k))
theorem cW {o:IE} {x:Nat} {e:IE} (h:W (aH cf env e H) fun v H1=>W (aH cf env o H1) fun ov H2=>G (kI ov x v H2) fun H3=>W (aJ cf r env H3) Q):W (aJ cf (.cons (.seta o x e) r) env H) Q :=
 gV (bA (m:=aH cf env e H) (h.mono fun _ _ k=>bA (k.mono fun _ _ k=>let ⟨_,e,q⟩:=k; uY e q)))
theorem lD {o i e:IE} (h:W (aH cf env e H) fun v H1=>W (aH cf env o H1) fun ov H2=>W (aH cf env i H2) fun iv H3=>G (jP ov iv v H3) fun H4=>W (aJ cf r env H4) Q):W (aJ cf (.cons (.seti o i e) r) env H) Q :=
 gV (bA (m:=aH cf env e H) (h.mono fun _ _ k=>bA (k.mono fun _ _ k=>bA (k.mono fun _ _ k=>let ⟨_,e,q⟩:=k; uY e q))))
theorem nP {i:Nat} {e:IE} {old:V} (h0:(env[i]?).join = some old) (h:W (aH cf env e H) fun v H1=>W (gH old v H1) fun u H2=>W (aJ cf r (bB i u env) H2) Q):W (aJ cf (.cons (.augl i e) r) env H) Q:=by
 refine gV ?_
 show W ((env[i]?).join.bind fun old=>bnd (aH cf env e H) fun v H2=>bnd (gH old v H2) fun r H3=>some ((Fl.next,bB i r env),H3)) _
 rw [h0]
 exact bA (m:=aH cf env e H) (Q:=Aft cf r Q) (f:=fun v H2=>bnd (gH old v H2) fun r H3=>some ((Fl.next,bB i r env),H3)) (h.mono fun _ _ k=>bA (k.mono fun _ _ k=>k))
theorem yK {o:IE} {x:Nat} {e:IE} (h:W (aH cf env o H) fun ov H1=>G (eO ov x H1) fun old=>W (aH cf env e H1) fun v H2=>W (gH old v H2) fun u H3=>G (kI ov x u H3) fun H4=>W (aJ cf r env H4) Q):W (aJ cf (.cons (.auga o x e) r) env H) Q:=by
 refine gV ?_
 refine bA (m:=aH cf env o H) (f:=fun ov H1=>(eO ov x H1).bind fun old=>bnd (aH cf env e H1) fun v H3=>bnd (gH old v H3) fun r H4=>(kI ov x r H4).map fun H5=>((Fl.next,env),H5)) (h.mono fun ov H1 k=>?_)
 obtain ⟨old,e0,k⟩:=k
 rw [e0]
 exact bA (m:=aH cf env e H1) (k.mono fun v H2 k=>bA (k.mono fun u H3 k=>let ⟨_,e,q⟩:=k; uY e q))
theorem iK {e:IE} (h:W (aH cf env e H) fun v H1=>W (aJ cf r env H1) Q):W (aJ cf (.cons (.expr e) r) env H) Q:=gV (bA (m:=aH cf env e H) (Q:=Aft cf r Q) (f:=fun _ H1=>some ((Fl.next,env),H1)) (h.mono fun _ _ k=>k))
theorem fH {t:IT} {a b:ISs} (h:W (bZ cf env t H) fun c H1=>(c = true→W (aJ cf a env H1) (Aft cf r Q))∧(c = false→W (aJ cf b env H1) (Aft cf r Q))):W (aJ cf (.cons (.ite t a b) r) env H) Q :=
 gV (bA (m:=bZ cf env t H) (h.mono fun _ _ k=>rJ k.1 k.2))
theorem cM {e:IE} (h:W (aH cf env e H) fun v H1=>Q (.ret v,env) H1):W (aJ cf (.cons (.ret e) r) env H) Q:=gV (bA (m:=aH cf env e H) (Q:=Aft cf r Q) (f:=fun v H1=>some ((Fl.ret v,env),H1)) (h.mono fun _ _ k=>k))
theorem tB (h:Q (.cont,env) H):W (aJ cf (.cons .cont r) env H) Q:=gV h
theorem cY {t:List Nat} {u:Bool} {i:II} {b:ISs} (h:W (fJ cf env i H) fun it H1=>W (gQ it (lV (fun v env H=>dX t u v env H) (aJ cf b)) it.items env H1) (Aft cf r Q)):W (aJ cf (.cons (.for t u i b) r) env H) Q :=
 gV (bA (m:=fJ cf env i H) h)
theorem sW {t:IT} {b:ISs} (h:W (mJ (fun env H=>bZ cf env t H) (aJ cf b) 200 env H) (Aft cf r Q)):W (aJ cf (.cons (.while t b) r) env H) Q:=gV h
end
noncomputable def Out (Q:V→Heap→Prop) (x:Fl × Env) (H:Heap):Prop:=match x.1 with
 | .next=>Q .none H
 | .ret v=>Q v H
 | .cont=>False
theorem cAa {Q:V→Heap→Prop} {v:V} {env:Env} {H:Heap} (q:Q v H):Out Q (.ret v,env) H:=q
theorem qG {Q:V→Heap→Prop} {env:Env} {H:Heap} (q:Q .none H):Out Q (.next,env) H:=q
theorem bK {tab:F→IFn} {n:Nat} {f:F} {vs:List V} {H:Heap} {Q:V→Heap→Prop} {env:Env} (he:mY (tab f) vs = some env) (h:W (aJ (aC tab n) (tab f).body env H) (Out Q)):W (aC tab (n + 1) f vs H) Q:=by
 show W ((mY (tab f) vs).bind fun env=>bnd (aJ (aC tab n) (tab f).body env H) fun x H1=>cD (outV x.1) H1) Q
 rw [he]
 refine bA (m:=aJ (aC tab n) (tab f).body env H) (f:=fun x H1=>cD (outV x.1) H1) (h.mono fun x H1 k=>?_)
 obtain ⟨fl,e⟩:=x
 cases fl with
 | next=>exact k
 | cont=>exact k
 | ret v=>exact k
end Mine.C
end
section
namespace Mine.C
open PySem (Expr Stmt Str Operator CmpOp)
noncomputable def Ext (H H':Heap):Prop:=∀ (a:Nat) (o:O),H[a]? = some o→H'[a]? = some o
theorem Ext.refl (H:Heap):Ext H H:=fun _ _ e=>e
theorem Ext.trans {A B C:Heap} (h:Ext A B) (k:Ext B C):Ext A C:=fun a o e=>k a o (h a o e)
theorem Ext.get {H H':Heap} (h:Ext H H') {a:Nat} {o:O} (e:H[a]? = some o):H'[a]? = some o:=h a o e
theorem Ext.none {H H':Heap} (h:Ext H H') {a:Nat} (e:H'[a]? = none):H[a]? = none:=by
 cases q:H[a]? with
 | none=>rfl
 | some o=>rw [h a o q] at e; first | exact nos e | exact nof e | cases e
structure bQ (H:Heap) (a:Nat) (o:O) (H':Heap):Prop where
 self:H'[a]? = some o
 other:∀ b:Nat,b ≠ a→H'[b]? = H[b]?
theorem bQ.get {H H':Heap} {a:Nat} {o:O} (h:bQ H a o H') {b:Nat} {x:O} (n:b ≠ a) (e:H[b]? = some x):H'[b]? = some x:=(h.other b n).trans e
theorem Ext.set {A H H':Heap} {a:Nat} {o:O} (k:Ext A H) (h:bQ H a o H') (f:A[a]? = Option.none):Ext A H':=fun b x e=>h.get (fun q=>by rw [q,f] at e; cases e) (k b x e)
theorem gJ {H:Heap} {a:Nat} {o o':O} (h:H[a]? = some o):bQ H a o' (List.set H a o'):=⟨by rw [List.getElem?_set_self (List.getElem?_eq_some_iff.mp h).1],fun b n=>List.getElem?_set_ne (Ne.symm n)⟩
theorem bV {H:Heap} {a b:Nat} {o:O} (h:H[b]? = some o) (n:H[a]? = Option.none):b ≠ a:=fun q=>by rw [q,n] at h; first | exact nos h | exact nof h | cases h
theorem nA (H:Heap) (o:O):Ext H (H ++ [o]):=fun a x e=>by rw [List.getElem?_append_left (List.getElem?_eq_some_iff.mp e).1]; exact e
theorem oF (H:Heap) (o:O):(H ++ [o])[H.length]? = some o:=by simp
theorem pY (H:Heap):H[H.length]? = Option.none:=List.getElem?_eq_none (Nat.le_refl _)
noncomputable def kJ (H:Heap) (Q:V→Heap→Prop) (o:O):Prop:=∀ (a:Nat) (H':Heap),Ext H H'→H'[a]? = some o→H[a]? = Option.none→Q (.ref a) H'
theorem aWa {H:Heap} {Q:V→Heap→Prop} {o:O} (q:kJ H Q o):Q (.ref H.length) (H ++ [o]):=q _ _ (nA _ _) (oF _ _) (pY _)
noncomputable abbrev Le (a b:Nat):Prop:=Nat.ble a b = true
theorem aG {a b:Nat} (h:Le a b):a ≤ b:=Nat.le_of_ble_eq_true h
theorem bJ {vs:List V} {H:Heap} {Q:V→Heap→Prop} (hl:vs.length ≤ 1000) (q:kJ H Q (.list vs)):W (fC vs H) Q:=by unfold fC; rw [cR hl]; exact aWa q
theorem iM {vs:List V} {H:Heap} {Q:V→Heap→Prop} (hl:vs.length ≤ 1000) (q:kJ H Q (.tuple vs)):W (rO vs H) Q:=by unfold rO; rw [cR hl]; exact aWa q
theorem lE {ks:List Str} {vs:List V} {H:Heap} {Q:V→Heap→Prop} (hl:ks.length = vs.length∧ks.length ≤ 15) (q:kJ H Q (.dict ((ks.zip vs).foldl (fun d e=>put e.1 e.2 d) []))):W (uX ks vs H) Q:=by unfold uX; rw [cR hl]; exact aWa q
section
variable {H:Heap} {Q:V→Heap→Prop}
theorem tYa {op:Operator} {x y z:Int} (h:intOp op x y = some z) (q:Q (.int z) H):W (iH op (.int x) (.int y) H) Q:=by
 show W ((intOp op x y).bind _) Q
 rw [h]; exact q
theorem hHa {x y:Int} (hx:small x = true) (hy:small y = true):intOp .Mult x y = some (x * y):=kE (by rw [hx,hy]; rfl) _
theorem qW {x y:Int} (hy:0 < y):intOp .Mod x y = some (Int.fmod x y):=cR hy _
theorem wK {x y:Int} (hy:0 < y∧y < 1073741824):intOp .FloorDiv x y = some (Int.fdiv x y):=cR hy _
theorem rRa {x y:Str} (h:x.length + y.length ≤ lim) (q:Q (.str (x ++ y)) H):W (iH .Add (.str x) (.str y) H) Q:=by
 show W (aP (decide (x.length + y.length ≤ lim)) _) Q
 rw [cR h]; exact q
theorem sX {a b:Nat} {vs us:List V} (ha:H[a]? = some (.list vs)) (hb:H[b]? = some (.list us)) (hl:(vs ++ us).length ≤ 1000) (q:kJ H Q (.list (vs ++ us))):W (iH .Add (.ref a) (.ref b) H) Q:=by
 show W ((cN H[a]?).bind fun vs=>(cN H[b]?).bind fun us=>fC (vs ++ us) H) Q
 rw [ha,hb]
 exact bJ hl q
theorem cT {a x:Nat} {c:Cls} {fs:List (Nat × V)} {u:V} (h:H[a]? = some (.inst c fs)) (l:look x fs = some u):eO (.ref a) x H = some u:=by
 show (oY H[a]?).bind _ = _
 rw [h]; exact l
theorem lK {P:V→Prop} {a:Nat} {k:Int} {vs:List V} {u:V} (h:H[a]? = some (.list vs)) (hv:((place k vs.length).bind fun j=>vs[j]?) = some u) (q:P u):G (subV (.ref a) (.int k) H) P :=
 ⟨u,by show qL k H[a]? = _; rw [h]; exact hv,q⟩
theorem mBa {P:V→Prop} {a:Nat} {s:Str} {es:List (Str × V)} {u:V} (h:H[a]? = some (.dict es)) (hv:look s es = some u) (q:P u):G (subV (.ref a) (.str s) H) P :=
 ⟨u,by show (iB H[a]?).bind _ = _; rw [h]; exact hv,q⟩
theorem wOa {P:V→Prop} {s:Str} {k:Int} {u:V} (h:subV (.str s) (.int k) [] = some u) (q:P u):G (subV (.str s) (.int k) H) P:=⟨u,h,q⟩
theorem mPa {a:Nat} {vs:List V} (h:H[a]? = some (.list vs)) (hl:vs.length ≤ 1000) (q:kJ H Q (.list vs)):W (lW .list [.ref a] H) Q:=by
 show W ((cN H[a]?).bind _) Q
 rw [h]; exact bJ hl q
theorem sNa {a:Nat} {ns:List Int} (h:H[a]? = some (.list (ns.map V.int))) (q:Q (.int ns.sum) H):W (lW .sum [.ref a] H) Q:=by
 show W ((cN H[a]?).bind _) Q
 rw [h]
 show W (aP ((ns.map V.int).all sO) _) Q
 rw [kE (by rw [List.all_map]; exact List.all_eq_true.mpr fun _ _=>rfl)]
 have e2:((ns.map V.int).map intOf).sum = ns.sum:=by rw [List.map_map,show (intOf ∘ V.int) = id from rfl,List.map_id]
 rw [e2]; exact q
theorem nY {a:Nat} {vs:List V} {v:V} (h:H[a]? = some (.list vs)) (hl:vs.length ≤ 1000) (q:∀ H',bQ H a (.list (vs ++ [v])) H'→Q .none H'):W (dI .append (.ref a) [v] H) Q:=by
 show W ((cN H[a]?).bind fun us=>aP (decide (us.length ≤ 1000)) _) Q
 rw [h]
 show W (aP (decide (vs.length ≤ 1000)) _) Q
 rw [cR hl]; exact q _ (gJ h)
theorem qTa {a:Nat} {es:List (Str × V)} {k:Str} {d:V} (h:H[a]? = some (.dict es)) (q:Q ((look k es).getD d) H):W (dI .get (.ref a) [.str k,d] H) Q:=by
 show W ((iB H[a]?).bind _) Q
 rw [h]; exact q
theorem vBa {a:Nat} {es:List (Str × V)} {k:Str} {d:V} (h:H[a]? = some (.dict es)) (hl:es.length ≤ 1000) (q:∀ H',bQ H a (.dict (jY k es)) H'→Q ((look k es).getD d) H'):W (dI .pop (.ref a) [.str k,d] H) Q:=by
 show W ((iB H[a]?).bind fun es=>(asStr (.str k)).bind fun k=>aP (decide (es.length ≤ 1000)) _) Q
 rw [h]
 show W (aP (decide (es.length ≤ 1000)) _) Q
 rw [cR hl]; exact q _ (gJ h)
theorem mK {a:Nat} {s:Str} {ys:List Str} (h:H[a]? = some (.list (ys.map V.str))) (hl:(ys.map (·.length)).sum + ys.length * s.length ≤ lim) (q:Q (.str (Str.join s ys)) H):W (dI .join (.str s) [.ref a] H) Q:=by
 show W ((cN H[a]?).bind fun us=>hGa s us H) Q
 rw [h]
 have e:strsOf (ys.map V.str) = some ys:=by
  clear h hl q
  induction ys with
  | nil=>rfl
  | cons y r ih=>show (strsOf (r.map V.str)).map (y :: ·) = _; rw [ih]; rfl
 show W ((strsOf (ys.map V.str)).bind _) Q
 rw [e]
 show W (aP (decide _) _) Q
 rw [cR hl]; exact q
theorem lU {m:BM} {a:Nat} {vs:List V} (hm:m = .append ∨ m = .index) (h:H[a]? = some (.list vs)):qC m (.ref a) H = true:=by
 rcases hm with rfl | rfl <;> (show ((cN H[a]?)).isSome = true; rw [h]; rfl)
theorem xY {m:BM} {a:Nat} {es:List (Str × V)} (hm:m = .get ∨ m = .pop) (h:H[a]? = some (.dict es)):qC m (.ref a) H = true:=by
 rcases hm with rfl | rfl <;> (show ((iB H[a]?)).isSome = true; rw [h]; rfl)
theorem k_inst {c:Cls} {a:Nat} {fs:List (Nat × V)} (h:H[a]? = some (.inst c fs)):oW c (.ref a) H = true:=by
 have e:mW H (.ref a) = some (c,fs):=by show oY H[a]? = _; rw [h]; rfl
 unfold oW
 rw [e]
 clear e h; cases c <;> rfl
theorem cZ {a x:Nat} {v:V} {c:Cls} {fs:List (Nat × V)} {P:Heap→Prop} (h:H[a]? = some (.inst c fs)) (hl:fs.length ≤ 100) (q:∀ H',bQ H a (.inst c (put x v fs)) H'→P H'):G (kI (.ref a) x v H) P :=
 ⟨_,by show (oY H[a]?).bind _ = _; rw [h]; exact cR hl _,q _ (gJ h)⟩
theorem zV {a:Nat} {k:Int} {v:V} {vs:List V} {j:Nat} {P:Heap→Prop} (h:H[a]? = some (.list vs)) (hp:place k vs.length = some j) (q:∀ H',bQ H a (.list (vs.set j v)) H'→P H'):G (jP (.ref a) (.int k) v H) P :=
 ⟨_,by show (iY (.int k) v H H[a]?).map _ = _; rw [h]; show ((place k vs.length).map _).map _ = _; rw [hp]; rfl,q _ (gJ h)⟩
theorem fZa {a:Nat} {s:Str} {v:V} {es:List (Str × V)} {P:Heap→Prop} (h:H[a]? = some (.dict es)) (hl:es.length ≤ 1000) (q:∀ H',bQ H a (.dict (put s v es)) H'→P H'):G (jP (.ref a) (.str s) v H) P :=
 ⟨_,by show (iY (.str s) v H H[a]?).map _ = _; rw [h]; show (aP _ _).map _ = _; rw [cR hl]; rfl,q _ (gJ h)⟩
theorem mTa {a:Nat} {k:Int} {v:V} {es:List (Int × V)} {P:Heap→Prop} (h:H[a]? = some (.idict es)) (hl:es.length ≤ 1000) (q:∀ H',bQ H a (.idict (put k v es)) H'→P H'):G (jP (.ref a) (.int k) v H) P :=
 ⟨_,by show (iY (.int k) v H H[a]?).map _ = _; rw [h]; show (aP _ _).map _ = _; rw [cR hl]; rfl,q _ (gJ h)⟩
theorem mDa {a:Nat} {k:Int} {v:V} {P:Heap→Prop} (h:H[a]? = some (.dict [])) (q:∀ H',bQ H a (.idict [(k,v)]) H'→P H'):G (jP (.ref a) (.int k) v H) P :=
 ⟨_,by show (iY (.int k) v H H[a]?).map _ = _; rw [h]; rfl,q _ (gJ h)⟩
theorem iC {P:Bool→Prop} {b:Bool} (q:P b):G (lH (.bool b)) P:=⟨b,rfl,q⟩
section
variable {P:Bool→Prop} {x y:Int} {s t:Str} {v:V}
theorem zF (q:P (decide (x = y))):G (lL .Eq (.int x) (.int y) H) P:=⟨_,rfl,q⟩
theorem oSa (q:P (decide (x < y))):G (lL .Lt (.int x) (.int y) H) P:=⟨_,rfl,q⟩
theorem tNa (q:P (decide (s = t))):G (lL .Eq (.str s) (.str t) H) P:=⟨_,rfl,q⟩
theorem eIa {b:Bool} (h:isIn (.str s) v H = some b) (q:P b):G (lL .In (.str s) v H) P:=⟨_,h,q⟩
theorem zJ {b:Bool} (h:isIn (.str s) v H = some b) (q:P (!b)):G (lL .NotIn (.str s) v H) P:=⟨_,by show (isIn (.str s) v H).map _ = _; rw [h]; rfl,q⟩
end
end
theorem dM {bind:V→Env→Heap→Option Env} {body:Env→Heap→ExR} {v:V} {env env1:Env} {H:Heap} {Q:Fl × Env→Heap→Prop} (hb:bind v env H = some env1) (h:W (body env1 H) Q):W (lV bind body v env H) Q:=bA (jT hb h)
theorem xO {bind:V→Heap→Option Env} {ifs:Env→Heap→Option (Bool × Heap)} {elt:Env→Heap→Option (V × Heap)} {v:V} {H:Heap} {env1:Env} {Q:Option V→Heap→Prop} (hb:bind v H = some env1)
  (h:W (ifs env1 H) fun ok H1=>(ok = true→W (elt env1 H1) fun x H2=>Q (some x) H2)∧(ok = false→Q .none H1)):W (jV bind ifs elt v H) Q :=
 bA (jT hb (bA (h.mono fun b _ k=>by
  clear h hb; cases b with
  | true=>exact bA (m:=elt env1 _) (k.1 rfl)
  | false=>exact k.2 rfl)))
theorem lB {it:It} {step:V→Env→Heap→ExR} {Q:Fl × Env→Heap→Prop} (P:List V→Env→Heap→Prop) (hok:∀ l env H,P l env H→it.ok H = true) (hs:∀ v l env H,P (v :: l) env H→W (step v env H) fun x H1=>match x.1 with | .ret _=>Q x H1 | _=>P l x.2 H1)
  (hq:∀ env H,P [] env H→Q (.next,env) H):∀ (l:List V) (env:Env) (H:Heap),P l env H→W (gQ it step l env H) Q
 | [],env,H,hp=>by
  show W (aP (it.ok H) _) Q
  rw [hok _ _ _ hp]; exact hq _ _ hp
 | v :: r,env,H,hp=>by
  show W (aP (it.ok H) _) Q
  rw [hok _ _ _ hp]
  refine bA (m:=step v env H) (f:=fun x H1=>dY x H1 (gQ it step r)) ((hs v r env H hp).mono fun x H1 k=>?_)
  obtain ⟨fl,e⟩:=x
  clear hp; cases fl with
  | next=>exact lB P hok hs hq r e H1 k
  | cont=>exact lB P hok hs hq r e H1 k
  | ret u=>exact k
theorem pX {α:Type} (g:α→V) {it:It} {step:V→Env→Heap→ExR} {Q:Fl × Env→Heap→Prop} (P:List α→Heap→Env→Prop) (hok:∀ l env H,P l H env→it.ok H = true) (hs:∀ x l env H,P (x :: l) H env→W (step (g x) env H) fun x H1=>match x.1 with | .ret _=>Q x H1 | _=>P l H1 x.2)
  (hq:∀ env H,P [] H env→Q (.next,env) H):∀ (l:List α) (env:Env) (H:Heap),P l H env→W (gQ it step (l.map g) env H) Q
 | [],env,H,hp=>by
  show W (aP (it.ok H) _) Q
  rw [hok _ _ _ hp]; exact hq _ _ hp
 | v :: r,env,H,hp=>by
  show W (aP (it.ok H) _) Q
  rw [hok _ _ _ hp]
  refine bA (m:=step (g v) env H) (f:=fun x H1=>dY x H1 (gQ it step (r.map g))) ((hs v r env H hp).mono fun x H1 k=>?_)
  obtain ⟨fl,e⟩:=x
  clear hp; cases fl with
  | next=>exact pX g P hok hs hq r e H1 k
  | cont=>exact pX g P hok hs hq r e H1 k
  | ret u=>exact k
theorem tV {it:It} {step:V→Heap→Option (Option V × Heap)} {Q:List V→Heap→Prop} (P:List V→List V→Heap→Prop) (hok:∀ l acc H,P l acc H→it.ok H = true) (hs:∀ v l acc H,P (v :: l) acc H→W (step v H) fun x H1=>P l (acc ++ x.toList) H1)
  (hq:∀ acc H,P [] acc H→Q acc H):∀ (l acc:List V) (H:Heap),P l acc H→W (fY it step l H) fun xs H1=>Q (acc ++ xs) H1
 | [],acc,H,hp=>by
  show W (aP (it.ok H) _) _
  rw [hok _ _ _ hp]
  show Q (acc ++ []) H
  rw [List.append_nil]; exact hq _ _ hp
 | v :: r,acc,H,hp=>by
  show W (aP (it.ok H) _) _
  rw [hok _ _ _ hp]
  refine bA (m:=step v H) (f:=fun x H1=>bnd (fY it step r H1) fun xs H2=>some (x.toList ++ xs,H2)) ((hs v r acc H hp).mono fun x H1 k=>?_)
  refine bA ((tV P hok hs hq r (acc ++ x.toList) H1 k).mono fun xs H2 q=>?_)
  show Q (acc ++ (x.toList ++ xs)) H2
  rw [← List.append_assoc]; exact q
end Mine.C
end
section
namespace Mine.C
open PySem (Expr Stmt Str Operator CmpOp)
variable {cf:aU} {env:Env} {H:Heap}
noncomputable def PE (cf:aU) (env:Env) (H:Heap) (e:IE) (v:V):Prop:=aH cf env e H = some (v,H)
noncomputable def PT (cf:aU) (env:Env) (H:Heap) (t:IT) (b:Bool):Prop:=bZ cf env t H = some (b,H)
theorem bI {α β:Type} {m:Option (α × Heap)} {a:α} {H1:Heap} (h:m = some (a,H1)) (f:α→Heap→Option β):bnd m f = f a H1:=by subst h; rfl
section
variable {a b o i:IE} {x y v:V}
theorem aB:PE cf env H (.const v) v:=rfl
theorem aA {i:Nat} (h:(env[i]?).join = some v):PE cf env H (.loc i) v:=by show cD _ _ = _; rw [h]; rfl
theorem dKa {op:Operator} (ha:PE cf env H a x) (hb:PE cf env H b y) (h:iH op x y H = some (v,H)):PE cf env H (.bin op a b) v:=(bI ha _).trans ((bI hb _).trans h)
theorem dJ {op:Operator} {p q r:Int} (ha:PE cf env H a (.int p)) (hb:PE cf env H b (.int q)) (h:intOp op p q = some r):PE cf env H (.bin op a b) (.int r):=dKa ha hb (by show (intOp op p q).bind _ = _; rw [h]; rfl)
theorem uQa {p q:Str} (ha:PE cf env H a (.str p)) (hb:PE cf env H b (.str q)) (h:p.length + q.length ≤ lim):PE cf env H (.bin .Add a b) (.str (p ++ q)):=dKa ha hb (cR h _)
theorem jE {p:Int} (ha:PE cf env H a (.int p)):PE cf env H (.neg a) (.int (-p)):=bI ha _
theorem kEa {p:Bool} (ha:PE cf env H a (.bool p)):PE cf env H (.not a) (.bool (!p)):=bI ha _
theorem aR {op:CmpOp} {c:Bool} (ha:PE cf env H a x) (hb:PE cf env H b y) (h:lL op x y H = some c):PE cf env H (.cmp op a b) (.bool c):=(bI ha _).trans ((bI hb _).trans (by rw [h]; rfl))
theorem hZa (ha:PE cf env H a (.bool true)) (hb:PE cf env H b v):PE cf env H (.and a b) v:=(bI ha _).trans hb
theorem xM (ha:PE cf env H a (.bool false)):PE cf env H (.and a b) (.bool false):=bI ha _
theorem kZ {t:IT} (ht:PT cf env H t true) (ha:PE cf env H a v):PE cf env H (.ite t a b) v:=(bI ht _).trans ha
theorem gK {t:IT} (ht:PT cf env H t false) (hb:PE cf env H b v):PE cf env H (.ite t a b) v:=(bI ht _).trans hb
theorem aF {r n:Nat} {c:Cls} {fs:List (Nat × V)} (ho:PE cf env H o (.ref r)) (h:H[r]? = some (.inst c fs)) (l:look n fs = some v):PE cf env H (.attr o n) v:=(bI ho _).trans (by rw [cT h l]; rfl)
theorem cQ {r:Nat} {k:Int} {vs:List V} (ho:PE cf env H o (.ref r)) (hi:PE cf env H i (.int k)) (h:H[r]? = some (.list vs)) (l:((place k vs.length).bind fun j=>vs[j]?) = some v):PE cf env H (.sub o i) v :=
 (bI ho _).trans ((bI hi _).trans (by show cD (qL k H[r]?) H = _; rw [h]; show cD ((place k vs.length).bind fun j=>vs[j]?) H = _; rw [l]; rfl))
theorem nG {r:Nat} {k:Int} {vs:List V} (ho:PE cf env H o (.ref r)) (hi:PE cf env H i (.int k)) (h:H[r]? = some (.tuple vs)) (l:((place k vs.length).bind fun j=>vs[j]?) = some v):PE cf env H (.sub o i) v :=
 (bI ho _).trans ((bI hi _).trans (by show cD (qL k H[r]?) H = _; rw [h]; show cD ((place k vs.length).bind fun j=>vs[j]?) H = _; rw [l]; rfl))
theorem nQa {r:Nat} {k:Int} {es:List (Int × V)} (ho:PE cf env H o (.ref r)) (hi:PE cf env H i (.int k)) (h:H[r]? = some (.idict es)) (l:look k es = some v):PE cf env H (.sub o i) v :=
 (bI ho _).trans ((bI hi _).trans (by show cD (qL k H[r]?) H = _; rw [h]; show cD (look k es) H = _; rw [l]; rfl))
theorem gGa {r:Nat} {s:Str} {es:List (Str × V)} (ho:PE cf env H o (.ref r)) (hi:PE cf env H i (.str s)) (h:H[r]? = some (.dict es)) (l:look s es = some v):PE cf env H (.sub o i) v :=
 (bI ho _).trans ((bI hi _).trans (by show cD ((iB H[r]?).bind _) H = _; rw [h]; show cD (look s es) H = _; rw [l]; rfl))
theorem rIa {s:Str} {k:Int} (ho:PE cf env H o (.str s)) (hi:PE cf env H i (.int k)) (l:subV (.str s) (.int k) [] = some v):PE cf env H (.sub o i) v :=
 (bI ho _).trans ((bI hi _).trans (by show cD (subV (.str s) (.int k) []) H = _; rw [l]; rfl))
theorem uP {f:Blt} (ha:PE cf env H a x) (h:lW f [x] H = some (v,H)):PE cf env H (.blt f (.cons a .nil)) v :=
 (bI (show bN cf env (.cons a .nil) H = some ([x],H) from bI ha _) _).trans h
theorem gM {r:Nat} {vs:List V} (ha:PE cf env H a (.ref r)) (h:H[r]? = some (.list vs)):PE cf env H (.blt .len (.cons a .nil)) (.int vs.length):=uP ha (by show (cN H[r]?).map _ = _; rw [h]; rfl)
theorem jX {k:Int} (ha:PE cf env H a (.int k)) (h:0 ≤ k∧k < 10000000000):PE cf env H (.blt .str (.cons a .nil)) (.str (toString k)):=uP ha (cR h _)
theorem kWa {s:Str} (ha:PE cf env H a (.str s)):PE cf env H (.blt .str (.cons a .nil)) (.str s):=uP ha rfl
theorem sV {m:BM} {as:IEs} {vs:List V} (ho:PE cf env H o x) (hk:qC m x H = true) (ha:bN cf env as H = some (vs,H)) (h:dI m x vs H = some (v,H)):PE cf env H (.bmeth m o as) v :=
 (bI ho _).trans ((kE hk _).trans ((bI ha _).trans h))
end
section
variable {t u:IT} {e:IE} {b:Bool}
theorem aO (h:PE cf env H e (.bool b)):PT cf env H (.val e) b:=bI h _
theorem zW (h:PT cf env H t b):PT cf env H (.not t) (!b):=bI h _
theorem gO (h:PT cf env H t true) (k:PT cf env H u b):PT cf env H (.and t u) b:=(bI h _).trans k
theorem jH (h:PT cf env H t false):PT cf env H (.and t u) false:=bI h _
theorem lSa (h:PT cf env H t true):PT cf env H (.or t u) true:=bI h _
theorem dSa (h:PT cf env H t false) (k:PT cf env H u b):PT cf env H (.or t u) b:=(bI h _).trans k
end
section
variable {e o i:IE} {v:V} {r:ISs} {Q:Fl × Env→Heap→Prop}
theorem E_p {Q:V→Heap→Prop} (h:PE cf env H e v) (q:Q v H):W (aH cf env e H) Q:=W.of h q
theorem T_p {t:IT} {b:Bool} {Q:Bool→Heap→Prop} (h:PT cf env H t b) (q:Q b H):W (bZ cf env t H) Q:=W.of h q
theorem aD {rs:IEs} {Q:List V→Heap→Prop} (h:PE cf env H e v) (q:W (bN cf env rs H) fun vs H2=>Q (v :: vs) H2):W (bN cf env (.cons e rs) H) Q:=cF (E_p h q)
theorem gA {n:Nat} (h:PE cf env H e v) (q:W (aJ cf r (bB n v env) H) Q):W (aJ cf (.cons (.setl n e) r) env H) Q:=bC (E_p h q)
theorem cC (h:PE cf env H e v) (q:Q (.ret v,env) H):W (aJ cf (.cons (.ret e) r) env H) Q:=cM (E_p h q)
theorem cB {p n:Nat} {c:Cls} {fs:List (Nat × V)} (h:PE cf env H e v) (ho:PE cf env H o (.ref p)) (ha:H[p]? = some (.inst c fs)) (hl:fs.length ≤ 100) (q:∀ H',bQ H p (.inst c (put n v fs)) H'→W (aJ cf r env H') Q):W (aJ cf (.cons (.seta o n e) r) env H) Q :=
 cW (E_p h (E_p ho (cZ ha hl q)))
theorem tU {p:Nat} {k:Int} {vs:List V} {j:Nat} (h:PE cf env H e v) (ho:PE cf env H o (.ref p)) (hi:PE cf env H i (.int k)) (ha:H[p]? = some (.list vs)) (hp:place k vs.length = some j) (q:∀ H',bQ H p (.list (vs.set j v)) H'→W (aJ cf r env H') Q):W (aJ cf (.cons (.seti o i e) r) env H) Q :=
 lD (E_p h (E_p ho (E_p hi (zV ha hp q))))
theorem tM {p:Nat} {s:Str} {es:List (Str × V)} (h:PE cf env H e v) (ho:PE cf env H o (.ref p)) (hi:PE cf env H i (.str s)) (ha:H[p]? = some (.dict es)) (hl:es.length ≤ 1000) (q:∀ H',bQ H p (.dict (put s v es)) H'→W (aJ cf r env H') Q):W (aJ cf (.cons (.seti o i e) r) env H) Q :=
 lD (E_p h (E_p ho (E_p hi (fZa ha hl q))))
theorem gZ {t:IT} {a b:ISs} {c:Bool} (h:PT cf env H t c) (kt:c = true→W (aJ cf a env H) (Aft cf r Q)) (kf:c = false→W (aJ cf b env H) (Aft cf r Q)):W (aJ cf (.cons (.ite t a b) r) env H) Q:=fH (T_p h ⟨kt,kf⟩)
theorem cJ {t:IT} {a b:ISs} (h:PT cf env H t true) (k:W (aJ cf a env H) (Aft cf r Q)):W (aJ cf (.cons (.ite t a b) r) env H) Q:=gZ h (fun _=>k) fun q=>nomatch q
theorem bH {t:IT} {a b:ISs} (h:PT cf env H t false) (k:W (aJ cf b env H) (Aft cf r Q)):W (aJ cf (.cons (.ite t a b) r) env H) Q:=gZ h (fun q=>nomatch q) fun _=>k
theorem mQ {p:Nat} {vs:List V} (ho:PE cf env H o (.ref p)) (h:PE cf env H e v) (ha:H[p]? = some (.list vs)) (hl:vs.length ≤ 1000) (q:∀ H',bQ H p (.list (vs ++ [v])) H'→W (aJ cf r env H') Q):W (aJ cf (.cons (.expr (.bmeth .append o (.cons e .nil))) r) env H) Q :=
 iK (fO (E_p ho ⟨lU (.inl rfl) ha,aD h (aK (nY ha hl fun H' s=>q H' s))⟩))
theorem bF {H':Heap} (q:W (aJ cf r env H') Q):W (aJ cf .nil env H') (Aft cf r Q):=q
end
end Mine.C
end
section
namespace Mine.C
open PySem (Expr Stmt Str)
noncomputable def fM (H:Heap) (h:Nat) (H':Heap):Prop:=∀ b:Nat,b ≠ h→H'[b]? = H[b]?
theorem bQ.same {H H':Heap} {a:Nat} {o:O} (h:bQ H a o H'):fM H a H':=h.other
theorem fM.trans {A B C:Heap} {h:Nat} (x:fM A h B) (y:fM B h C):fM A h C:=fun b n=>(y b n).trans (x b n)
structure Hand (H:Heap) (h c:Nat) (ns:List Int) (pos:Nat) (rest seed:Int):Prop where
 hand:H[h]? = some (.list [.ref c,.int pos,.int rest,.int seed])
 cells:H[c]? = some (.list (ns.map V.int))
 pos:pos ≤ ns.length
 rest:0 ≤ rest
 seed:0 ≤ seed∧seed < 2147483648
inductive pU (H:Heap) (h c:Nat):Prop where
 | mk (ns pos rest seed):Hand H h c ns pos rest seed→pU H h c
structure Picked (H:Heap) (h c:Nat) (k:Int) (v:V) (H':Heap):Prop where
 val:∃ i:Int,v = .int i∧0 ≤ i∧i < k
 ok:pU H' h c
 same:fM H h H'
theorem tL (a:Int) {k:Int} (hk:0 < k):0 ≤ Int.fmod a k∧Int.fmod a k < k:=⟨Int.fmod_nonneg_of_pos a hk,Int.fmod_lt_of_pos a hk⟩
theorem jWa {a k:Int} (ha:0 ≤ a) (hk:0 < k):0 ≤ Int.fdiv a k:=Int.fdiv_nonneg ha (Int.le_of_lt hk)
theorem Hand.ne {H:Heap} {h c:Nat} {ns:List Int} {pos:Nat} {rest seed:Int} (A:Hand H h c ns pos rest seed):c ≠ h:=fun q=>by
 have:=A.cells
 rw [q,A.hand] at this
 clear q A; cases ns with
 | nil=>first | exact nos this | exact nof this | cases this
 | cons _ _=>first | exact nos this | exact nof this | cases this
noncomputable def lAa:ISs:=.cons (.setl 3 (.bin .Mod (.sub (.loc 0) (.const (.int (2)))) (.loc 1))) (.cons (.seti (.loc 0) (.const (.int (2))) (.bin .FloorDiv (.sub (.loc 0) (.const (.int (2)))) (.loc 1))) (.cons (.ret (.loc 3)) .nil))
theorem gKa {H0 H:Heap} {h c:Nat} {ns:List Int} {pos:Nat} {rest seed:Int} (S:fM H0 h H) (A:Hand H h c ns pos rest seed) {cf:aU} {k:Int} (hk:0 < k∧k < 1073741824) {u w x y z t:Option V} :
  W (aJ cf lAa [some (.ref h),some (.int k),u,w,x,y,z,t] H) (Out (Picked H0 h c k)):=by
 have e:=A.ne
 obtain ⟨a1,a2,a3,a4,a5⟩:=A
 obtain ⟨k1,k2⟩:=hk
 refine gA (dJ (cQ (aA rfl) aB a1 rfl) (aA rfl) (qW k1)) (tU (dJ (cQ (aA rfl) aB a1 rfl) (aA rfl) (wK ⟨k1,k2⟩)) (aA rfl) aB a1 rfl fun H1 s1=>cC (aA rfl) ?_)
 exact ⟨⟨_,rfl,tL rest k1⟩,⟨ns,pos,Int.fdiv rest k,seed,s1.self,s1.get e a2,a3,jWa a4 k1,a5⟩,S.trans s1.same⟩
theorem oTa {H:Heap} {h c:Nat} (A:pU H h c) {n:Nat} {k:Int} (hk:0 < k∧k < 1073741824):W (aC tbl (n + 1) .pick [.ref h,.int k] H) (Picked H h c k):=by
 obtain ⟨ns,pos,rest,seed,A⟩:=A
 have e:=A.ne
 obtain ⟨k1,k2⟩:=id hk
 obtain ⟨a1,a2,a3,a4,a5⟩:=id A
 refine bK (env:=[some (.ref h),some (.int k),none,none,none,none,none,none]) rfl ?_
 refine gZ (c:=decide (rest = 0)) (aO (aR (cQ (aA rfl) aB a1 rfl) aB rfl)) (fun hz=>?_) fun hz=>gKa (fun _ _=>rfl) A hk
 refine gZ (c:=decide ((pos:Int) = (ns.map V.int).length)) (aO (aR (cQ (aA rfl) aB a1 rfl) (gM (cQ (aA rfl) aB a1 rfl) a2) rfl)) (fun hp=>?_) fun hp=>?_
 ·refine tU (dJ (dJ (cQ (aA rfl) aB a1 rfl) aB (hHa (by with_unfolding_all exact decide_eq_true (by exact vQ a5.1 a5.2 (by decide))) rfl)) aB (qW (by decide))) (aA rfl) aB a1 rfl fun H1 s1=>cC (dJ (dJ (cQ (aA rfl) aB s1.self rfl) aB (wK (by decide))) (aA rfl) (qW k1)) ?_
  have s:=tL (seed * 48271) (k:=2147483647) (by decide)
  exact ⟨⟨_,rfl,tL _ hk.1⟩,⟨ns,pos,rest,_,s1.self,s1.get e a2,a3,a4,s.1,Int.lt_trans s.2 (by decide)⟩,s1.same⟩
 ·have hlt:pos < ns.length:=by
   have hp:=of_decide_eq_false hp
   rw [List.length_map] at hp
   exact Nat.lt_of_le_of_ne a3 fun q=>hp (qN q)
  have hfig:((place (pos:Int) (ns.map V.int).length).bind fun j=>(ns.map V.int)[j]?) = some (.int (ns[pos])):=by
   have hp:place (pos:Int) (ns.map V.int).length = some pos:=by
    unfold place
    rw [if_pos ⟨Int.natCast_nonneg _,by rw [List.length_map]; exact Int.ofNat_lt.mpr hlt⟩]; rfl
   rw [hp]
   show (ns.map V.int)[pos]? = _
   rw [List.getElem?_map,List.getElem?_eq_getElem hlt]; rfl
  have fin:∃ f:Int,0 ≤ f∧∀ H,PE (aC tbl n) [some (.ref h),some (.int k),some (.int ns[pos]),none,none,none,none,none] H (.ite (.val (.cmp .GtE (.loc 2) (.const (.int (0))))) (.loc 2) (.neg (.loc 2))) (.int f):=by
   have hb:∀ H,PT (aC tbl n) [some (.ref h),some (.int k),some (.int ns[pos]),none,none,none,none,none] H (.val (.cmp .GtE (.loc 2) (.const (.int (0))))) (decide (0 ≤ ns[pos])):=fun H=>aO (aR (aA rfl) aB rfl)
   clear hp hz a4 a3 k2 k1 A; by_cases q:0 ≤ ns[pos]
   ·rw [decide_eq_true q] at hb
    exact ⟨_,q,fun H=>kZ (hb H) (aA rfl)⟩
   ·rw [decide_eq_false q] at hb
    exact ⟨-ns[pos],by exact zF_ q,fun H=>gK (hb H) (jE (aA rfl))⟩
  obtain ⟨f,hf,hpe⟩:=fin
  refine bF (gA (cQ (cQ (aA rfl) aB a1 rfl) (cQ (aA rfl) aB a1 rfl) a2 hfig) (tU (dJ (cQ (aA rfl) aB a1 rfl) aB rfl) (aA rfl) aB a1 rfl fun H1 s1=>?_))
  refine tU (hpe H1) (aA rfl) aB s1.self rfl fun H2 s2=>?_
  exact gKa (s1.same.trans s2.same) ⟨s2.self,s2.get e (s1.get e a2),hlt,hf,a5⟩ hk
end Mine.C
end
section
namespace Mine.C
open PySem (Expr Stmt Str Operator CmpOp)
noncomputable def SL (m:Nat) (s:Str):Prop:=s.length ≤ m
theorem aV {a b:Nat} {p q:Str} (h:SL a p) (k:SL b q):SL (a + b) (p ++ q):=by
 unfold SL
 rw [Str.length_append]
 exact Nat.add_le_add h k
theorem SL.mono {a b:Nat} {p:Str} (h:SL a p) (k:Nat.ble a b = true):SL b p:=Nat.le_trans h (Nat.le_of_ble_eq_true k)
theorem aN {m:Nat} {s:Str} (h:Nat.ble s.length m = true):SL m s:=Nat.le_of_ble_eq_true h
theorem jJ:∀ n:Nat,n < 2000→SL 4 (toString (n:Int):String):=by
 have:∀ n:Nat,n < 2000→Nat.ble (Str.length (toString (n:Int):String)) 4 = true:=by decide +kernel
 exact fun n h=>aN (this n h)
theorem pI {i:Int} (h:0 ≤ i∧i < 2000):SL 4 (toString i:String):=by
 obtain ⟨n,rfl⟩:=Int.eq_ofNat_of_zero_le h.1
 exact jJ n (Int.ofNat_lt.mp h.2)
theorem cSa {a b:Nat} {p q:Str} (hp:SL a p) (hq:SL b q) (h:Nat.ble (a + b) 16777216 = true):p.length + q.length ≤ lim:=Nat.le_trans (Nat.add_le_add hp hq) (Nat.le_of_ble_eq_true h)
section
variable {cf:aU} {env:Env} {H:Heap}
theorem bR {a b:IE} {p q:Str} {m k:Nat} (ha:PE cf env H a (.str p)) (hb:PE cf env H b (.str q)) (hp:SL m p) (hq:SL k q) (h:Nat.ble (m + k) 16777216 = true):PE cf env H (.bin .Add a b) (.str (p ++ q)):=uQa ha hb (cSa hp hq h)
theorem cH {p q:Str} {m k:Nat} {Q:V→Heap→Prop} (hp:SL m p) (hq:SL k q) (h:Nat.ble (m + k) 16777216 = true) (q':Q (.str (p ++ q)) H):W (iH .Add (.str p) (.str q) H) Q:=rRa (cSa hp hq h) q'
end
theorem kW {sep:Str} {k m:Nat} (hs:SL k sep):∀ {ys:List Str},(∀ y ∈ ys,SL m y)→SL (ys.length * (m + k)) (Str.join sep ys)
 | [],_=>Nat.zero_le _
 | [y],h=>by
  have:=h y (.head _)
  show y.length ≤ 1 * (m + k)
  unfold SL at this
  exact lin [_,_,_] .x (.m 1 (.a .y .z)) [(.x,.y)] rfl this
 | y :: z :: r,h=>by
  have h1:=h y (.head _)
  have h2:=kW hs (ys:=z :: r) fun x hx=>h x (.tail _ hx)
  show SL _ (y ++ sep ++ Str.join sep (z :: r))
  unfold SL at *
  rw [Str.length_append,Str.length_append,List.length_cons,Nat.succ_mul]
  exact lin [_,_,_,_,_,_] (.a (.a .x .y) .z) (.a .w (.a (.v 4) (.v 5))) [(.x,.v 4),(.y,.v 5),(.z,.w)] rfl h1 hs h2
theorem vJ {m:Nat}:∀ {ys:List Str},(∀ y ∈ ys,SL m y)→(ys.map (·.length)).sum ≤ ys.length * m
 | [],_=>Nat.zero_le _
 | y :: r,h=>by
  have h1:=h y (.head _)
  have h2:=vJ fun x hx=>h x (.tail y hx)
  unfold SL at h1
  rw [List.map_cons,List.sum_cons,List.length_cons,Nat.succ_mul]
  exact lin [_,_,_,_] (.a .x .y) (.a .z .w) [(.x,.w),(.y,.z)] rfl h1 h2
theorem join_snoc (sep:Str) (y:Str):∀ {ys:List Str},ys ≠ []→Str.join sep (ys ++ [y]) = Str.join sep ys ++ sep ++ y
 | [],h=>absurd rfl h
 | [x],_=>rfl
 | x :: z :: r,_=>by
  show x ++ sep ++ Str.join sep (z :: r ++ [y]) = x ++ sep ++ Str.join sep (z :: r) ++ sep ++ y
  rw [join_snoc sep y (ys:=z :: r) (fun h=>nomatch h)]
  simp only [Str.append_assoc]
end Mine.C
end
section
namespace Mine.C
open PySem (Expr Stmt Str)
noncomputable def Ret (H:Heap) (x v:V) (H':Heap):Prop:=v = x∧Ext H H'
noncomputable abbrev tyF (num:Int) (form:Str) (size:Int) (base:V) (len:Int) (fs ps:Nat) (mod lab:Str) (hid:Nat):O:=.inst .ty [(0,.int num),(1,.str form),(2,.int size),(3,base),(4,.int len),(5,.ref fs),(6,.int 0),(7,.ref ps),(8,.str mod),(9,.str lab),(10,.ref hid),(11,.int 0)]
noncomputable abbrev obF (name kind:Str) (t:Nat) (exp ro:Bool) (val:V):O:=.inst .ob [(12,.str name),(13,.str kind),(14,.ref t),(15,.int 0),(16,.bool exp),(17,.bool ro),(6,.int 0),(8,.str ""),(18,val),(19,.int 0),(20,.int 0),(0,.int 0),(21,.bool false),(22,.none)]
noncomputable abbrev nmF (al sc nr:Nat):O:=.inst .nms [(8,.str "M"),(26,.ref al),(27,.ref sc),(22,.ref nr),(28,.bool false)]
noncomputable def bEs:List (Str × V):=(List.zip (["boolean","char","byte","integer","set"]:List Str) [.str "BOOLEAN",.str "CHAR",.str "BYTE",.str "INTEGER",.str "SET"]).foldl (fun d e=>put e.1 e.2 d) []
theorem wZ {H:Heap} {n:Nat} {Q:V→Heap→Prop} (q:kJ H Q (.dict bEs)):W (aC tbl (n + 1) .basic_names [] H) Q:=by
 refine bK (env:=[none,none,none,none]) rfl ?_
 exact cM (iU (aD aB (aD aB (aD aB (aD aB (aD aB (aK (lE (by decide) q))))))))
noncomputable def fnd (k:Int):List (Str × V)→Option Str
 | []=>none
 | p :: r=>if intOf p.2 = k then some p.1 else fnd k r
theorem gHa {k:Int} {p:Str × V} {r:List (Str × V)}:fnd k (p :: r) = if intOf p.2 = k then some p.1 else fnd k r:=rfl
noncomputable def vK (sd:List (Str × V)):Prop:=∀ p ∈ sd,∃ j,p.2 = .int j
theorem dJa {i:Nat} {k:Int}:∀ {sd:List (Str × V)} (env:Env),vK sd→∃ env',env'.length = env.length∧(∀ j,i ≠ j→env'[j]? = env[j]?)∧vN i k [] sd env = some ((match fnd k sd with | some s=>Fl.ret (.str s) | none=>.next),env')
 | [],env,_=>⟨env,rfl,fun _ _=>rfl,rfl⟩
 | p :: r,env,h=>by
  obtain ⟨j,hj⟩:=h p (.head _)
  obtain ⟨s,x⟩:=p
  cases hj
  have l1:(bB i (V.str s) env).length = env.length:=by unfold bB; exact List.length_set
  have g1:∀ j,i ≠ j→(bB i (V.str s) env)[j]? = env[j]?:=fun j hj=>by unfold bB; exact List.getElem?_set_ne hj
  by_cases e:j = k
  ·refine ⟨bB i (.str s) env,l1,g1,?_⟩
   show (if j = k∧look s [] = none then _ else _) = _
   rw [if_pos ⟨e,rfl⟩]
   rw [gHa]
   rw [if_pos (show intOf (.int j) = k from e)]
  ·obtain ⟨e1,e2,e3,e4⟩:=dJa (sd:=r) (bB i (.str s) env) fun q hq=>h q (.tail _ hq)
   refine ⟨e1,e2.trans l1,fun j hj=>(e3 j hj).trans (g1 j hj),?_⟩
   show (if j = k∧look s [] = none then _ else _) = _
   rw [if_neg fun q=>e q.1]
   rw [gHa]
   rw [if_neg (show ¬ intOf (.int j) = k from e)]
   exact e4
inductive PNx (H:Heap) (p s0:Nat):Prop where
 | mk (al sc nr ad):H[p]? = some (nmF al sc nr)→H[al]? = some (.dict ad)→(look ("N":Str) ad).getD (.str "N") = .str "N"→H[sc]? = some (.list [.ref s0])→PNx H p s0
structure PN (H:Heap) (p s0:Nat) (sd:List (Str × V)):Prop where
 ex:PNx H p s0
 dic:H[s0]? = some (.dict sd)
 alli:vK sd
 len:sd.length ≤ 10
theorem PN.ext {H H':Heap} {p s0:Nat} {sd:List (Str × V)} (h:PN H p s0 sd) (k:Ext H H'):PN H' p s0 sd :=
 let ⟨al,sc,nr,ad,a,b,c,d⟩:=h.ex
 ⟨⟨al,sc,nr,ad,k.get a,k.get b,c,k.get d⟩,k.get h.dic,h.alli,h.len⟩
theorem rKa {H:Heap} {p a:Nat} {n:Nat} {form s:Str} {num size len:Int} {base:V} {fs ps hid:Nat} {mod lab:Str} (ha:H[a]? = some (tyF num form size base len fs ps mod lab hid)) (hf:look form bEs = some (.str s)) :
  W (aC tbl (n + 2) .name_of [.ref p,.ref a] H) (Ret H (.str s)):=by
 refine bK (env:=[some (.ref p),some (.ref a),none,none,none,none,none,none,none]) rfl ?_
 refine fH (fK (fW (E_p (aF (aA rfl) ha rfl) (bO (aK (wZ fun b H1 x1 g1 n1=>?_))))))
 refine eIa (b:=true) (by show inS form H1[b]? = _; rw [g1]; show some (look form bEs).isSome = _; rw [hf]; rfl) (iC ⟨fun _=>?_,fun q=>nomatch q⟩)
 refine cM (gC (bO (aK (wZ fun b2 H2 x2 g2 n2=>E_p (aF (aA rfl) (x2.get (x1.get ha)) rfl) (mBa g2 hf ?_)))))
 exact ⟨rfl,x1.trans x2⟩
theorem dNa:∀ vs:List V,nJ vs vs = true
 | []=>rfl
 | v :: r=>by
  have h:pL v v = true:=by
   cases v with
   | none=>rfl
   | bool b=>exact beq_self_eq_true b
   | int i=>exact decide_eq_true rfl
   | str s=>exact decide_eq_true rfl
   | ref a=>exact decide_eq_true rfl
  show (pL v v && nJ r r) = true
  rw [h,dNa r]; rfl
theorem cO {H:Heap} {a:Nat} {vs:List V} (h:H[a]? = some (.list vs)):okL vs (cN H[a]?) = true:=by rw [h]; exact dNa vs
theorem iMa {it:It} {step:V→Env→Heap→ExR} {Q:Fl × Env→Heap→Prop} {v:V} {env:Env} {H:Heap} (h:it.ok H = true) (k:W (step v env H) fun x H1=>dY x H1 (fun env H=>aP (it.ok H) (some ((.next,env),H))) ≠ none∧∀ y H2,dY x H1 (fun env H=>aP (it.ok H) (some ((.next,env),H))) = some (y,H2)→Q y H2):W (gQ it step [v] env H) Q:=by
 show W (aP (it.ok H) _) Q
 rw [h]
 refine bA (m:=step v env H) (f:=fun x H1=>dY x H1 (gQ it step [])) (k.mono fun x H1 ⟨k1,k2⟩=>?_)
 show W (dY x H1 (fun env H=>aP (it.ok H) (some ((.next,env),H)))) Q
 cases e:dY x H1 (fun env H=>aP (it.ok H) (some ((.next,env),H))) with
 | none=>exact absurd e k1
 | some p=>exact k2 _ _ e
theorem pCa {it:It} {H1:Heap} {v:V} {env:Env} {Q:Fl × Env→Heap→Prop} (q:Q (.ret v,env) H1):dY (.ret v,env) H1 (fun env H=>aP (it.ok H) (some ((.next,env),H))) ≠ none∧∀ y H2,dY (.ret v,env) H1 (fun env H=>aP (it.ok H) (some ((.next,env),H))) = some (y,H2)→Q y H2 :=
 ⟨fun h=>(nomatch h),fun y H2 h=>by cases h; exact q⟩
theorem bWa {it:It} {H1:Heap} {env:Env} {Q:Fl × Env→Heap→Prop} (h:it.ok H1 = true) (q:Q (.next,env) H1):dY (.next,env) H1 (fun env H=>aP (it.ok H) (some ((.next,env),H))) ≠ none∧∀ y H2,dY (.next,env) H1 (fun env H=>aP (it.ok H) (some ((.next,env),H))) = some (y,H2)→Q y H2:=by
 have e:dY (.next,env) H1 (fun env H=>aP (it.ok H) (some ((Fl.next,env),H))) = some ((.next,env),H1):=by show aP (it.ok H1) _ = _; rw [h]; rfl
 rw [e]
 exact ⟨fun h=>(nomatch h),fun y H2 h=>by cases h; exact q⟩
theorem xK {i:Nat}:∀ (es:List (Str × V)) (env:Env) {j:Nat},i ≠ j→(nR i es env)[j]? = env[j]?
 | [],_,_,_=>rfl
 | p :: r,env,j,h=>(xK r _ h).trans (by unfold bB; exact List.getElem?_set_ne h)
section
variable {cf:aU} {env:Env} {H:Heap} {r:ISs} {Q:Fl × Env→Heap→Prop}
theorem qUa {i a t h:Nat} {x:Fl × Env} (e:qY i a t h env H = some x) (q:Aft cf r Q x H):W (aJ cf (.cons (.dfind i a t h) r) env H) Q:=gV (jT e q)
theorem uA {i a:Nat} {es:List (Str × V)} (h:(env[i]?).join = some (.ref a)) (k:H[a]? = some (.dict es)):lG env H i = some (a,es):=by unfold lG; rw [h]; show (iB H[a]?).map _ = _; rw [k]; rfl
theorem kTa {i a h d1 d2:Nat} {e1 e2:List (Str × V)} (h1:lG env H a = some (d1,e1)) (h2:lG env H h = some (d2,e2)) (hd:d1 ≠ d2∧e1.length + e2.length ≤ 1000) (hg:H[d2]? = some (.dict e2)) (q:∀ H',bQ H d2 (.dict (oZ e1 e2)) H'→W (aJ cf r (nR i e1 env) H') Q):W (aJ cf (.cons (.dall i a h) r) env H) Q:=by
 refine gV ?_
 show W (vA i a h env H) _
 unfold vA
 rw [h1,h2]
 show W (aP (decide (d1 ≠ d2∧e1.length + e2.length ≤ 1000)) _) _
 rw [cR hd]
 exact q _ (gJ hg)
end
noncomputable def xT:ISs:=(.cons (.ite (.and (.val (.cmp .NotIn (.attr (.loc 1) 8) (.tuple (.cons (.const (.str (""))) (.cons (.attr (.loc 0) 8) .nil))))) (.val (.call .is_plain (.cons (.attr (.loc 1) 9) .nil)))) (.cons (.ret (.bin .Add (.bin .Add (.ometh .module_name .nms (.loc 0) (.cons (.attr (.loc 1) 8) .nil)) (.const (.str ("."))) ) (.attr (.loc 1) 9))) .nil) .nil) (.cons (.ret (.const (.none))) .nil))
theorem uL {H:Heap} {p a s0:Nat} {sd:List (Str × V)} (N:PN H p s0 sd) {n:Nat} {form:Str} {num size len:Int} {base:V} {fs ps hid:Nat} {mod lab:Str} (ha:H[a]? = some (tyF num form size base len fs ps mod lab hid)) (hf:look form bEs = none) {Q:V→Heap→Prop}
  (hs:∀ s,fnd num sd = some s→∀ H',Ext H H'→Q (.str s) H') (hn:fnd num sd = none→∀ env H',Ext H H'→(env[0]?).join = some (.ref p)→(env[1]?).join = some (.ref a)→W (aJ (aC tbl (n + 1)) xT env H') (Out Q)) :
  W (aC tbl (n + 2) .name_of [.ref p,.ref a] H) Q:=by
 obtain ⟨⟨al,sc,nr,ad,n1,n2,n3,n4⟩,n5,n6,n7⟩:=N
 refine bK (env:=[some (.ref p),some (.ref a),none,none,none,none,none,none,none]) rfl ?_
 refine fH (fK (fW (E_p (aF (aA rfl) ha rfl) (bO (aK (wZ fun b H1 x1 g1 m1=>?_))))))
 refine eIa (b:=false) (by show inS form H1[b]? = _; rw [g1]; show some (look form bEs).isSome = _; rw [hf]; rfl) (iC ⟨fun q=>(nomatch q),fun _=>?_⟩)
 refine bF (bC (iU (aK (lE (by decide) fun d H2 x2 g2 m2=>?_))))
 have g2:H2[d]? = some (.dict []):=g2
 refine cY (pDa (E_p (aF (aA rfl) (x2.get (x1.get n1)) rfl) ⟨⟨[.ref s0],.list sc [.ref s0]⟩,by show (cN H2[sc]?).map _ = _; rw [x2.get (x1.get n4)]; rfl,?_⟩))
 have hd:s0 ≠ d:=bV (x1.get n5) m2
 have hsc:sc ≠ d:=bV (x1.get n4) m2
 have k5:=x2.get (x1.get n5)
 obtain ⟨env',l1,l2,l3⟩:=dJa (i:=4) (k:=num) (bB 3 (.ref s0) (bB 2 (.ref d) [some (.ref p),some (.ref a),none,none,none,none,none,none,none])) n6
 have hdf:qY 4 3 1 2 (bB 3 (.ref s0) (bB 2 (.ref d) [some (.ref p),some (.ref a),none,none,none,none,none,none,none])) H2 = some ((match fnd num sd with | some s=>Fl.ret (.str s) | none=>.next),env'):=by
  unfold qY
  rw [uA (i:=3) (a:=s0) rfl k5,uA (i:=2) (a:=d) rfl g2]
  show (eO (.ref a) 0 H2).bind _ = _
  rw [cT (x2.get (x1.get ha)) rfl]
  exact l3
 refine iMa (cO (x2.get (x1.get n4))) (bA (jT rfl (qUa hdf ?_)))
 cases hq:fnd num sd with
 | some s=>exact pCa (v:=.str s) (env:=env') (cAa (env:=env') (hs s hq H2 (x1.trans x2)))
 | none =>
  have e2:(env'[2]?).join = some (.ref d):=by rw [l2 2 (by decide)]; rfl
  have e3:(env'[3]?).join = some (.ref s0):=by rw [l2 3 (by decide)]; rfl
  refine aZ (kTa (uA e3 k5) (uA e2 g2) ⟨hd,by simp only [List.length_nil]; exact lin [_] (.a .x (.n 0)) (.n 1000) [(.x,.n 10)] rfl n7⟩ g2 fun H3 s3=>aX ?_)
  refine bWa (cO (s3.get hsc (x2.get (x1.get n4)))) (aZ ?_)
  refine hn hq _ _ ((x1.trans x2).set s3 (x1.none m2)) ?_ ?_
  ·rw [xK _ _ (by decide),l2 0 (by decide)]; rfl
  ·rw [xK _ _ (by decide),l2 1 (by decide)]; rfl
end Mine.C
end
section
namespace Mine.C
open PySem (Expr Stmt Str)
theorem sEa (n:Nat) (H:Heap):aC tbl (n + 1) .is_plain [.str "R"] H = some (.bool true,H):=by kernel_rfl
theorem rXa {H:Heap} {p a:Nat} {n al sc nr:Nat} (hp:H[p]? = some (nmF al sc nr)) {form:Str} {num size len:Int} {base:V} {fs ps hid:Nat} {lab:Str} (ha:H[a]? = some (tyF num form size base len fs ps "M" lab hid)) {env:Env} (h0:(env[0]?).join = some (.ref p)) (h1:(env[1]?).join = some (.ref a)) :
  W (aJ (aC tbl n) xT env H) (Out fun v H'=>v = .none∧Ext H H'):=by
 refine fH (jN (fK (fW (E_p (aF (aA h1) ha rfl) (fV (aD aB (aD (aF (aA h0) hp rfl) (aK (iM (by decide) fun b H1 x1 g1 m1=>?_)))))))))
 refine zJ (b:=true) (by show inS _ H1[b]? = _; rw [g1]; kernel_rfl) (iC ⟨fun q=>(nomatch q),fun _=>⟨fun q=>(nomatch q),fun _=>?_⟩⟩)
 exact bF (cC aB ⟨rfl,x1⟩)
theorem qKa {H:Heap} {p a:Nat} {n al sc nr:Nat} {ad:List (Str × V)} (hp:H[p]? = some (nmF al sc nr)) (hal:H[al]? = some (.dict ad)) (hN:(look ("N":Str) ad).getD (.str "N") = .str "N") {form:Str} {num size len:Int} {base:V} {fs ps hid:Nat} (ha:H[a]? = some (tyF num form size base len fs ps "N" "R" hid)) {env:Env} (h0:(env[0]?).join = some (.ref p)) (h1:(env[1]?).join = some (.ref a)) :
  W (aJ (aC tbl (n + 1)) xT env H) (Out (Ret H (.str "N.R"))):=by
 refine fH (jN (fK (fW (E_p (aF (aA h1) ha rfl) (fV (aD aB (aD (aF (aA h0) hp rfl) (aK (iM (by decide) fun b H1 x1 g1 m1=>?_)))))))))
 have a1:=x1.get ha
 have p1:=x1.get hp
 refine zJ (b:=false) (by show inS _ H1[b]? = _; rw [g1]; kernel_rfl) (iC ⟨fun _=>fK (bO (aD (aF (aA h1) a1 rfl) (aK (W.of (sEa n H1) (iC ⟨fun _=>?_,fun q=>(nomatch q)⟩))))),fun q=>(nomatch q)⟩)
 refine cM (bW (bW (fZ (E_p (aA h0) ⟨k_inst p1,aD (aF (aA h1) a1 rfl) (aK ?_)⟩))))
 refine bK (env:=[some (.ref p),some (.str "N"),none,none,none,none]) rfl ?_
 refine cC (v:=.str "N") (sV (aF (aA rfl) p1 rfl) (xY (.inl rfl) (x1.get hal)) (vs:=[.str "N",.str "N"]) rfl (by show (iB H1[al]?).bind _ = _; rw [x1.get hal]; exact congrArg (fun v=>some (v,H1)) hN)) ?_
 refine cAa (E_p aB ?_)
 refine cH (aN (m:=1) rfl) (aN (m:=1) rfl) rfl ?_
 refine E_p (aF (aA h1) a1 rfl) ?_
 refine cH (aN (m:=2) (by kernel_rfl)) (aN (m:=1) rfl) rfl ?_
 exact ⟨by kernel_rfl,x1⟩
theorem sU {H:Heap} {p a:Nat} {n:Nat} {Q:V→Heap→Prop} (h:W (aC tbl n .name_of [.ref p,.ref a] H) fun v H'=>(∃ s,v = .str s∧Q (.str s) H') ∨ (v = .none∧W (aC tbl n .structure_text [.ref p,.ref a] H') Q)) (hp:∃ fs,H[p]? = some (.inst .nms fs)):W (aC tbl (n + 1) .type_text [.ref p,.ref a] H) Q:=by
 obtain ⟨fs,hp⟩:=hp
 refine bK (env:=[some (.ref p),some (.ref a),none,none,none,none,none]) rfl ?_
 refine bC (fZ (E_p (aA rfl) ⟨k_inst hp,aD (aA rfl) (aK (h.mono fun v H1 k=>?_))⟩))
 clear hp h; rcases k with ⟨s,rfl,q⟩ | ⟨rfl,q⟩
 ·exact cJ (aO (aR (aA rfl) aB rfl)) (cC (aA rfl) q)
 ·exact bH (aO (aR (aA rfl) aB rfl)) (bF (cM (bO (aD (aA rfl) (aD (aA rfl) (aK q))))))
end Mine.C
end
section
namespace Mine.C
open PySem (Expr Stmt Str)
structure Item where
 o:Nat
 name:Str
 var:Bool
 num:Int
 t:Nat
structure Row where
 var:Bool
 names:List Str
 num:Int
 t:Nat
 os:List Nat
noncomputable def Row.new (x:Item):Row:=⟨x.var,[x.name],x.num,x.t,[x.o]⟩
noncomputable def Row.add (r:Row) (x:Item):Row:={ r with names:=r.names ++ [x.name],os:=r.os ++ [x.o] }
noncomputable def eQ (acc:List Row) (r:Row):List Item→List Row
 | []=>acc ++ [r]
 | x :: xs=>if r.num = x.num∧r.var = x.var then eQ acc (r.add x) xs else eQ (acc ++ [r]) (.new x) xs
theorem uR {acc:List Row} {r:Row} {x:Item} {xs:List Item}:eQ acc r (x :: xs) = if r.num = x.num∧r.var = x.var then eQ acc (r.add x) xs else eQ (acc ++ [r]) (.new x) xs:=rfl
theorem aHa:∀ {xs:List Item} {acc:List Row} {r:Row},eQ acc r xs ≠ []
 | [],_,_=>fun q=>nomatch (List.append_eq_nil_iff.mp q).2
 | _ :: xs,_,_=>by rw [uR]; split <;> exact aHa (xs:=xs)
noncomputable def grp:List Item→List Row
 | []=>[]
 | x :: xs=>eQ [] (.new x) xs
noncomputable def hd (v:Bool):Str:=match v with
 | true=>"VAR "
 | false=>""
noncomputable def bG (tx:Nat→Str) (r:Row):Str:=hd r.var ++ Str.join ", " r.names ++ ": " ++ tx r.t
inductive dB (H:Heap) (a:Nat) (num:Int):Prop where
 | mk (form size base len fs ps mod lab hid):H[a]? = some (tyF num form size base len fs ps mod lab hid)→dB H a num
theorem dB.ext {H H':Heap} {a:Nat} {num:Int} (h:dB H a num) (k:Ext H H'):dB H' a num:=let ⟨f,s,b,l,x,p,m,q,i,e⟩:=h; ⟨f,s,b,l,x,p,m,q,i,k.get e⟩
inductive LN (H:Heap) (l:Nat) (nm:Int→Option Str):Prop where
 | nil:H[l]? = some (.dict [])→(∀ k,8 ≤ k→nm k = none)→LN H l nm
 | nums {es:List (Int × V)}:H[l]? = some (.idict es)→(∀ k,8 ≤ k→look k es = (nm k).map V.str)→LN H l nm
theorem LN.ext {H H':Heap} {l:Nat} {nm:Int→Option Str} (h:LN H l nm) (k:Ext H H'):LN H' l nm:=by
 cases h with
 | nil a b=>exact .nil (k.get a) b
 | nums a b=>exact .nums (k.get a) b
noncomputable def Bd:Nat→Nat
 | 0=>10
 | d + 1=>4 * Bd d + 100
structure gD (nm:Int→Option Str) (H0:Heap) (d a:Nat) (s:Str):Prop where
 law:∀ k H l,Ext H0 H→LN H l nm→W (aC tbl (k + 3 * d + 3) .ltext [.ref l,.ref a] H) (Ret H (.str s))
 prg:∀ k H p s0 sd,Ext H0 H→PN H p s0 sd→(∀ k,8 ≤ k→fnd k sd = nm k)→W (aC tbl (k + 3 * d + 3) .type_text [.ref p,.ref a] H) (Ret H (.str s))
 len:SL (Bd d) s
structure nLa (nm:Int→Option Str) (H0:Heap) (d a:Nat) (s:Str):Prop where
 law:∀ k H l,Ext H0 H→LN H l nm→W (aC tbl (k + 3 * d + 5) .lstructure [.ref l,.ref a] H) (Ret H (.str s))
 prg:∀ k H p s0 sd,Ext H0 H→PN H p s0 sd→(∀ k,8 ≤ k→fnd k sd = nm k)→W (aC tbl (k + 3 * d + 5) .structure_text [.ref p,.ref a] H) (Ret H (.str s))
 len:SL (Bd (d + 1)) s
structure Fd where
 o:Nat
 name:Str
 exp:Bool
 t:Nat
inductive GS (H:Heap) (P:Nat→Prop) (a:Nat):Prop where
 | arr {num len:Int} {b fs ps hid:Nat} {lab:Str}:H[a]? = some (tyF num "array" 4 (.ref b) len fs ps "M" lab hid)→8 ≤ num→1 ≤ len∧len ≤ 9→P b→GS H P a
 | ptr {num:Int} {b fs ps hid:Nat} {lab:Str}:H[a]? = some (tyF num "pointer" 4 (.ref b) 0 fs ps "M" lab hid)→8 ≤ num→P b→GS H P a
 | rcd {num:Int} {base:V} {fs ps hid:Nat} {lab:Str} {fl:List Fd}:H[a]? = some (tyF num "record" 8 base 0 fs ps "M" lab hid)→8 ≤ num→(base = .none ∨ ∃ b,base = .ref b∧P b) →
   H[fs]? = some (.list (fl.map fun f=>.ref f.o))→fl.length ≤ 3→(∀ f ∈ fl,H[f.o]? = some (obF f.name "field" f.t f.exp false .none)∧SL 3 f.name∧P f.t)→GS H P a
inductive GB (H:Heap) (a:Nat):Prop where
 | basic {num size len:Int} {form s:Str} {base:V} {fs ps hid:Nat}:H[a]? = some (tyF num form size base len fs ps "" "" hid)→num < 8→look form bEs = some (.str s)→SL 7 s→GB H a
 | other {num:Int} {fs ps hid:Nat}:H[a]? = some (tyF num "record" 4 .none 0 fs ps "N" "R" hid)→8 ≤ num→GB H a
noncomputable def GT (H:Heap):Nat→Nat→Prop
 | 0,a=>GB H a
 | d + 1,a=>GT H d a ∨ GS H (GT H d) a
theorem lY {H:Heap}:∀ {d a:Nat},GT H d a→∃ num,dB H a num
 | 0,a,h=>by
  cases h with
  | basic e _ _ _=>exact ⟨_,_,_,_,_,_,_,_,_,_,e⟩
  | other e _=>exact ⟨_,_,_,_,_,_,_,_,_,_,e⟩
 | d + 1,a,h=>by
  rcases h with h | h
  ·exact lY h
  ·cases h with
   | arr e _ _ _=>exact ⟨_,_,_,_,_,_,_,_,_,_,e⟩
   | ptr e _ _=>exact ⟨_,_,_,_,_,_,_,_,_,_,e⟩
   | rcd e _ _ _ _ _=>exact ⟨_,_,_,_,_,_,_,_,_,_,e⟩
theorem dOa {H:Heap}:∀ {d a:Nat},GT H d a→∀ {num size len:Int} {form lab:Str} {base:V} {fs ps hid:Nat},H[a]? = some (tyF num form size base len fs ps "M" lab hid)→∃ d',d' < d∧GS H (GT H d') a
 | 0,a,h,num,size,len,form,lab,base,fs,ps,hid,e=>by
  have no:∀ s:Str,s ≠ "M"→∀ {num size len:Int} {form lab:Str} {base:V} {fs ps hid:Nat},H[a]? ≠ some (tyF num form size base len fs ps s lab hid):=fun s hs _ _ _ _ _ _ _ _ _ q=>by
   rw [e] at q
   injection q with q
   injection q with _ q
   exact hs (by injection q with _ q; injection q with _ q; injection q with _ q; injection q with _ q; injection q with _ q; injection q with _ q; injection q with _ q; injection q with _ q; injection q with q _; injection q with _ q; injection q with q; exact q.symm)
  cases h with
  | basic e' _ _ _=>exact absurd e' (no _ (by decide +kernel))
  | other e' _=>exact absurd e' (no _ (by decide +kernel))
 | d + 1,a,h,num,size,len,form,lab,base,fs,ps,hid,e=>by
  rcases h with h | h
  ·obtain ⟨d',h1,h2⟩:=dOa h e
   exact ⟨d',Nat.lt_succ_of_lt h1,h2⟩
  ·exact ⟨d,Nat.lt_succ_self d,h⟩
end Mine.C
end
section
namespace Mine.C
open PySem (Expr Stmt Str)
noncomputable def But (f:Nat) (H H':Heap):Prop:=∀ (a:Nat) (o:O),a ≠ f→H[a]? = some o→H'[a]? = some o
theorem Ext.but {f:Nat} {H H':Heap} (h:Ext H H'):But f H H':=fun a o _ e=>h a o e
theorem bQ.but {f:Nat} {H H':Heap} {o:O} (h:bQ H f o H'):But f H H':=fun a x n e=>h.get n e
theorem But.trans {f:Nat} {A B C:Heap} (h:But f A B) (k:But f B C):But f A C:=fun a o n e=>k a o n (h a o n e)
theorem rF {as:List V} {x:V}:((place (-1) (as ++ [x]).length).bind fun j=>(as ++ [x])[j]?) = some x:=by
 have h:place (-1) (as ++ [x]).length = some as.length:=by
  unfold place
  rw [List.length_append,if_neg (fun q=>absurd q.1 (by decide)),if_pos ⟨rfl,by simp⟩]
  simp
 rw [h]
 show (as ++ [x])[as.length]? = _
 simp
theorem cWa {as:List V} {x:V}:place (-1) (as ++ [x]).length = some as.length:=by
 unfold place
 rw [List.length_append,if_neg (fun q=>absurd q.1 (by decide)),if_pos ⟨rfl,by simp⟩]
 simp
theorem bLa {as:List V} {x y:V}:(as ++ [x]).set as.length y = as ++ [y]:=by simp
section
variable {cf:aU} {env:Env} {H:Heap}
theorem pR {e:IE} {a:Nat} {vs:List V} {Q:Bool→Heap→Prop} (h:PE cf env H e (.ref a)) (g:H[a]? = some (.list vs)) (q:∀ H1,Ext H H1→Q (!vs.isEmpty) H1):W (bZ cf env (.val (.cmp .NotEq e (.list .nil))) H) Q:=by
 refine fK (fW (E_p h (bU (aK (bJ (by decide) fun b H1 x1 g1 m1=>?_)))))
 refine ⟨!vs.isEmpty,?_,iC (q H1 x1)⟩
 show ((cN H1[a]?).bind fun vs=>(cN H1[b]?).bind fun us=>aP us.isEmpty (some vs.isEmpty)).map (!·) = _
 rw [x1.get g,g1]; rfl
end
noncomputable def TupAt (H:Heap) (x:Item):Prop:=H[x.o]? = some (.tuple [.str (hd x.var),.str x.name,.ref x.t])∧dB H x.t x.num
noncomputable def lN (H:Heap) (a:Nat) (r:Row):Prop:=H[a]? = some (.tuple [.str (hd r.var),.str (Str.join ", " r.names),.int r.num,.ref r.t])
noncomputable def gU (H:Heap):List Nat→List Row→Prop
 | [],[]=>True
 | a :: as,r :: rs=>lN H a r∧gU H as rs
 | _,_=>False
theorem gU.but {f:Nat} {vs:List V} {H H':Heap} (hf:H[f]? = some (.list vs)) (k:But f H H'):∀ {as:List Nat} {rs:List Row},gU H as rs→gU H' as rs
 | [],[],_=>trivial
 | a :: as,r :: rs,h=>⟨k _ _ (fun q=>by have:=h.1; unfold lN at this; rw [q,hf] at this; cases this) h.1,gU.but hf k h.2⟩
 | [],_ :: _,h=>h
 | _ :: _,[],h=>h
theorem gU.snoc {H:Heap} {a:Nat} {r:Row} (h:lN H a r):∀ {as:List Nat} {rs:List Row},gU H as rs→gU H (as ++ [a]) (rs ++ [r])
 | [],[],_=>⟨h,trivial⟩
 | _ :: _,_ :: _,k=>⟨k.1,gU.snoc h k.2⟩
 | [],_ :: _,k=>k.elim
 | _ :: _,[],k=>k.elim
theorem jCa {a b:Bool}:hd a = hd b ↔ a = b:=by
 constructor
 ·intro h
  cases a <;> cases b <;> first | rfl | (exact absurd h (by decide +kernel))
 ·rintro rfl; rfl
inductive LG (Hs:Heap) (L rl f:Nat) (all:List Row) (l:List V) (env:Env) (H:Heap):Prop where
 | first {xs:List Item} {x3 x4 x5:Option V}:env = [some (.ref L),some (.ref rl),some (.ref f),x3,x4,x5,none,none,none,none]→l = xs.map (fun x=>.ref x.o)→(∀ x ∈ xs,TupAt Hs x∧SL 3 x.name)→Ext Hs H→Hs[f]? = none→H[f]? = some (.list [])→xs.length ≤ 3→grp xs = all→LG Hs L rl f all l env H
 | on {xs:List Item} {x3 x4 x5:Option V} {as:List Nat} {a:Nat} {acc:List Row} {r:Row}:env = [some (.ref L),some (.ref rl),some (.ref f),x3,x4,x5,none,none,none,none]→l = xs.map (fun x=>.ref x.o)→(∀ x ∈ xs,TupAt Hs x∧SL 3 x.name)→Ext Hs H→Hs[f]? = none→H[f]? = some (.list (as.map V.ref ++ [.ref a])) →
   gU H as acc→lN H a r→r.names ≠ []→(Str.join ", " r.names).length + 5 * xs.length ≤ 15→as.length + xs.length ≤ 3→eQ acc r xs = all→LG Hs L rl f all l env H
noncomputable def oLa:ISs:=(.cons (.ite (.and (.val (.cmp .NotEq (.loc 2) (.list .nil))) (.and (.val (.cmp .Eq (.sub (.sub (.loc 2) (.neg (.const (.int (1))))) (.const (.int (0)))) (.loc 3))) (.val (.cmp .Eq (.sub (.sub (.loc 2) (.neg (.const (.int (1))))) (.const (.int (2)))) (.attr (.loc 5) 0))))) (.cons (.seti (.loc 2) (.neg (.const (.int (1)))) (.tuple (.cons (.loc 3) (.cons (.bin .Add (.bin .Add (.sub (.sub (.loc 2) (.neg (.const (.int (1))))) (.const (.int (1)))) (.const (.str (", ")))) (.loc 4)) (.cons (.attr (.loc 5) 0) (.cons (.sub (.sub (.loc 2) (.neg (.const (.int (1))))) (.const (.int (3)))) .nil))))))
 .nil) (.cons (.expr (.bmeth .append (.loc 2) (.cons (.tuple (.cons (.loc 3) (.cons (.loc 4) (.cons (.attr (.loc 5) 0) (.cons (.loc 5) .nil))))) .nil)))
 .nil))
 .nil)
noncomputable abbrev lgE (L rl f:Nat) (x3 x4 x5:Option V):Env:=[some (.ref L),some (.ref rl),some (.ref f),x3,x4,x5,none,none,none,none]
noncomputable abbrev nU (L rl f:Nat) (x:Item):Env:=lgE L rl f (some (.str (hd x.var))) (some (.str x.name)) (some (.ref x.t))
theorem gJa {cf:aU} {L rl f:Nat} {x:Item} {H:Heap} {vs:List V} {Q:Fl × Env→Heap→Prop} (ht:dB H x.t x.num) (hf:H[f]? = some (.list vs)) (hl:vs.length ≤ 1000)
  (q:∀ H' a,But f H H'→H'[f]? = some (.list (vs ++ [.ref a]))→lN H' a (.new x)→H[a]? = none→Q (.next,nU L rl f x) H') :
  W (aJ cf (.cons (.expr (.bmeth .append (.loc 2) (.cons (.tuple (.cons (.loc 3) (.cons (.loc 4) (.cons (.attr (.loc 5) 0) (.cons (.loc 5) .nil))))) .nil))) .nil) (nU L rl f x) H) Q:=by
 obtain ⟨f1,s1,b1,l1,x1,p1,m1,q1,i1,e1⟩:=ht
 refine iK (fO (E_p (aA rfl) ⟨lU (.inl rfl) hf,cF (fV (aD (aA rfl) (aD (aA rfl) (aD (aF (aA rfl) e1 rfl) (aD (aA rfl) (aK (iM (aG rfl) fun a H1 x2 g2 m2=>aK ?_)))))))⟩))
 have hn:a ≠ f:=(bV hf m2).symm
 exact nY (x2.get hf) hl fun H2 s2=>aX (q H2 a (x2.but.trans s2.but) s2.self (s2.get hn g2) m2)
theorem rSa {cf:aU} {L rl f:Nat} {x:Item} {H:Heap} {as:List V} {a:Nat} {r:Row} {Q:Fl × Env→Heap→Prop} (ht:dB H x.t x.num) (hf:H[f]? = some (.list (as ++ [.ref a]))) (hr:lN H a r) (he:r.num = x.num∧r.var = x.var) (hne:r.names ≠ []) (hl:SL 15 (Str.join ", " r.names)) (hx:SL 3 x.name)
  (q:∀ H' b,But f H H'→H'[f]? = some (.list (as ++ [.ref b]))→lN H' b (r.add x)→Q (.next,nU L rl f x) H') :
  W (aJ cf (.cons (.seti (.loc 2) (.neg (.const (.int (1)))) (.tuple (.cons (.loc 3) (.cons (.bin .Add (.bin .Add (.sub (.sub (.loc 2) (.neg (.const (.int (1))))) (.const (.int (1)))) (.const (.str (", ")))) (.loc 4)) (.cons (.attr (.loc 5) 0) (.cons (.sub (.sub (.loc 2) (.neg (.const (.int (1))))) (.const (.int (3)))) .nil))))))
 .nil) (nU L rl f x) H) Q:=by
 obtain ⟨f1,s1,b1,l1,x1,p1,m1,q1,i1,e1⟩:=ht
 have hla:PE cf (nU L rl f x) H (.sub (.loc 2) (.neg (.const (.int (1))))) (.ref a):=cQ (aA rfl) (jE aB) hf rF
 refine lD (fV (aD (aA rfl) (aD (bR (bR (nG hla aB hr rfl) aB hl (aN (m:=2) (by kernel_rfl)) rfl) (aA rfl) (aV hl (aN (m:=2) (by kernel_rfl))) hx rfl) (aD (aF (aA rfl) e1 rfl) (aD (nG hla aB hr rfl) (aK (iM (aG rfl) fun b H1 x2 g2 m2=>?_)))))))
 have hn:b ≠ f:=(bV hf m2).symm
 refine E_p (aA rfl) (E_p (jE aB) (zV (x2.get hf) cWa fun H2 s2=>aX ?_))
 rw [bLa] at s2
 refine q H2 b (x2.but.trans s2.but) s2.self (s2.get hn ?_)
 rw [g2]
 show some (O.tuple [.str (hd x.var),.str (Str.join ", " r.names ++ ", " ++ x.name),.int x.num,.ref r.t]) = some (.tuple [.str (hd r.var),.str (Str.join ", " (r.names ++ [x.name])),.int r.num,.ref r.t])
 rw [join_snoc _ _ hne,he.1,he.2]
theorem mNa {Hs:Heap} {L rl f:Nat} {all:List Row} {cf:aU} {v:V} {l:List V} {env:Env} {H:Heap} {Q:Fl × Env→Heap→Prop} (h:LG Hs L rl f all (v :: l) env H):W (lV (fun v env H=>dX [3,4,5] true v env H) (aJ cf oLa) v env H) fun x H1=>match x.1 with | .ret _=>Q x H1 | _=>LG Hs L rl f all l x.2 H1:=by
 have bind:∀ {x:Item} {x3 x4 x5:Option V},TupAt H x→dX [3,4,5] true (.ref x.o) (lgE L rl f x3 x4 x5) H = some (nU L rl f x):=fun h=>by
  show (jG H[_]?).bind _ = _
  rw [h.1]; rfl
 cases h with
 | @first xs x3 x4 x5 he hl hx hE hn hf hle hg =>
  subst he
  cases xs with
  | nil=>first | exact nos hl | exact nof hl | cases hl
  | cons x xs =>
  cases hl
  obtain ⟨⟨t1,t2⟩,t3⟩:=hx x (.head _)
  have tx:TupAt H x:=⟨hE.get t1,t2.ext hE⟩
  refine dM (bind tx) (fH (jN (pR (aA rfl) hf fun H1 e1=>⟨fun q=>(nomatch q),fun _=>⟨fun q=>(nomatch q),fun _=>?_⟩⟩)))
  refine gJa (tx.2.ext e1) (e1.get hf) (aG rfl) fun H2 a b2 g2 r2 m2=>aZ (aX ?_)
  rw [List.length_cons] at hle
  exact .on (as:=[]) (acc:=[]) (r:=.new x) rfl rfl (fun y hy=>hx y (.tail _ hy)) (fun b o q=>b2 b o (fun w=>by rw [w,hn] at q; cases q) (e1.get (hE.get q))) hn g2 trivial r2 (fun q=>nomatch q) (by have:x.name.length ≤ 3:=t3; show x.name.length + _ ≤ _; exact lin [_,_] (.a .x (.m 5 .y)) (.n 15) [(.x,.n 3),(.a .y (.n 1),.n 3),(.a .y (.n 1),.n 3),(.a .y (.n 1),.n 3),(.a .y (.n 1),.n 3),(.a .y (.n 1),.n 3)] rfl this hle hle hle hle hle) (by simp only [List.length_nil]; exact lin [_] (.a (.n 0) .x) (.n 3) [(.a .x (.n 1),.n 3)] rfl hle) hg
 | @on xs x3 x4 x5 as a acc r he hl hx hE hn hf hrs hr hne hlen hle hg =>
  subst he
  cases xs with
  | nil=>first | exact nos hl | exact nof hl | cases hl
  | cons x xs =>
  cases hl
  obtain ⟨⟨t1,t2⟩,t3⟩:=hx x (.head _)
  have tx:TupAt H x:=⟨hE.get t1,t2.ext hE⟩
  rw [List.length_cons] at hlen hle
  have t3':x.name.length ≤ 3:=t3
  have ex:∀ {H1 H2:Heap},Ext H H1→But f H1 H2→Ext Hs H2:=fun e1 b2 b o q=>b2 b o (fun w=>by rw [w,hn] at q; cases q) (e1.get (hE.get q))
  refine dM (bind tx) (fH (jN (pR (aA rfl) hf fun H1 e1=>⟨fun _=>?_,fun q=>by simp at q⟩)))
  have hr1:lN H1 a r:=e1.get hr
  have hrs1:=hrs.but hf e1.but
  have hf1:=e1.get hf
  obtain ⟨f1,s1,b1,l1,y1,p1,m1,q1,i1,ty1⟩:=tx.2.ext e1
  have hla:PE cf (nU L rl f x) H1 (.sub (.loc 2) (.neg (.const (.int (1))))) (.ref a):=cQ (aA rfl) (jE aB) hf1 rF
  have new:(¬ (r.num = x.num∧r.var = x.var))→_:=fun hno=>gJa (cf:=cf) (L:=L) (rl:=rl) (Q:=Aft cf .nil fun x H1=>match x.1 with | .ret _=>Q x H1 | _=>LG Hs L rl f all (xs.map fun x=>.ref x.o) x.2 H1) (tx.2.ext e1) hf1 (by simp only [List.length_append,List.length_map,List.length_cons,List.length_nil]; exact lin [_,_] (.a .x (.a (.n 0) (.n 1))) (.n 1000) [(.a .x (.a .y (.n 1)),.n 3)] rfl hle) fun H2 b b2 g2 r2 m2=>aZ (aX (by
   have hg':eQ (acc ++ [r]) (.new x) xs = all:=by rw [← hg]; show _ = (if r.num = x.num∧r.var = x.var then _ else _); rw [if_neg hno]
   exact .on (as:=as ++ [a]) (acc:=acc ++ [r]) rfl rfl (fun y hy=>hx y (.tail _ hy)) (ex e1 b2) hn (by rw [g2,List.map_append]; rfl) ((hrs1.but hf1 b2).snoc (b2 _ _ (fun w=>by have:=hr1; unfold lN at this; rw [w,hf1] at this; cases this) hr1)) r2 (fun q=>nomatch q)
    (by show x.name.length + _ ≤ _; exact lin [_,_,_] (.a .x (.m 5 .y)) (.n 15) [(.x,.n 3),(.a .z (.m 5 (.a .y (.n 1))),.n 15)] rfl t3' hlen) (by simp only [List.length_append,List.length_cons,List.length_nil]; exact lin [_,_] (.a (.a .x (.n 1)) .y) (.n 3) [(.a .x (.a .y (.n 1)),.n 3)] rfl hle) hg'))
  refine jN (T_p (aO (aR (c:=decide (hd r.var = hd x.var)) (nG hla aB hr1 rfl) (aA rfl) rfl)) ⟨fun hv=>?_,fun hv=>⟨fun q=>(nomatch q),fun _=>new fun w=>of_decide_eq_false hv (by rw [w.2])⟩⟩)
  refine T_p (aO (aR (c:=decide (r.num = x.num)) (nG hla aB hr1 rfl) (aF (aA rfl) ty1 rfl) rfl)) ⟨fun hm=>?_,fun hm=>new fun w=>of_decide_eq_false hm w.1⟩
  have hyes:r.num = x.num∧r.var = x.var:=⟨of_decide_eq_true hm,jCa.mp (of_decide_eq_true hv)⟩
  refine rSa (tx.2.ext e1) hf1 hr1 hyes hne (by unfold SL; exact lin [_,_] .x (.n 15) [(.a .x (.m 5 (.a .y (.n 1))),.n 15)] rfl hlen) t3 fun H2 b b2 g2 r2=>aZ (aX ?_)
  have hg':eQ acc (r.add x) xs = all:=by rw [← hg]; show _ = (if r.num = x.num∧r.var = x.var then _ else _); rw [if_pos hyes]
  exact .on (as:=as) (acc:=acc) (r:=r.add x) rfl rfl (fun y hy=>hx y (.tail _ hy)) (ex e1 b2) hn g2 (hrs1.but hf1 b2) r2 (by simp [Row.add]) (by
   show (Str.join ", " (r.names ++ [x.name])).length + _ ≤ _
   rw [join_snoc _ _ hne,Str.length_append,Str.length_append,show Str.length (", ":Str) = 2 by kernel_rfl]; exact lin [_,_,_] (.a (.a (.a .x (.n 2)) .y) (.m 5 .z)) (.n 15) [(.a .x (.m 5 (.a .z (.n 1))),.n 15),(.y,.n 3)] rfl hlen t3') (Nat.le_of_lt (by assumption)) hg'
end Mine.C
end
section
namespace Mine.C
open PySem (Expr Stmt Str)
inductive jO (X:Item→Prop) (k:Nat) (r:Row):Prop where
 | mk (y ys):r.os = (y :: ys).map (·.o)→r.names = (y :: ys).map (·.name)→r.t = y.t→r.var = y.var→(∀ z ∈ y :: ys,X z)→(y :: ys).length + k ≤ 3→jO X k r
theorem jO.none {X:Item→Prop} {k:Nat} {r:Row} (h:jO X k r):jO X 0 r:=let ⟨y,ys,a,b,c,d,e,f⟩:=h; ⟨y,ys,a,b,c,d,e,Nat.le_trans (Nat.le_add_right _ k) f⟩
theorem aYa (X:Item→Prop):∀ (xs:List Item) (acc:List Row) (r:Row),(∀ q ∈ acc,jO X 0 q)→jO X xs.length r→(∀ x ∈ xs,X x)→acc.length + xs.length ≤ 2→(eQ acc r xs).length ≤ 3∧∀ q ∈ eQ acc r xs,jO X 0 q
 | [],acc,r,ha,hr,_,hl=>by
  show (acc ++ [r]).length ≤ 3∧∀ q ∈ acc ++ [r],_
  refine ⟨by simp only [List.length_append,List.length_cons,List.length_nil] at hl ⊢; exact lin [_] (.a .x (.a (.n 0) (.n 1))) (.n 3) [(.a .x (.n 0),.n 2)] rfl hl,fun q hq=>?_⟩
  rcases List.mem_append.mp hq with hq | hq
  ·exact ha q hq
  ·rw [List.mem_singleton.mp hq]
   exact hr
 | x :: xs,acc,r,ha,hr,hx,hl=>by
  rw [List.length_cons] at hl
  rw [uR]
  split
  ·refine aYa X xs acc (r.add x) ha ?_ (fun y hy=>hx y (.tail _ hy)) (Nat.le_of_lt (by assumption))
   obtain ⟨y,ys,a,b,c,d,e,f⟩:=hr
   refine ⟨y,ys ++ [x],by show r.os ++ _ = _; rw [a]; simp,by show r.names ++ _ = _; rw [b]; simp,c,d,fun z hz=>?_,by simp only [List.length_cons,List.length_append,List.length_nil] at f ⊢; exact lin [_,_] (.a (.a (.a .x (.a (.n 0) (.n 1))) (.n 1)) .y) (.n 3) [(.a (.a .x (.n 1)) (.a .y (.n 1)),.n 3)] rfl f⟩
   clear f d c b; rcases List.mem_append.mp (show z ∈ (y :: ys) ++ [x] from hz) with hz | hz
   ·exact e z hz
   ·rw [List.mem_singleton.mp hz]; exact hx x (.head _)
  ·refine aYa X xs (acc ++ [r]) (.new x) (fun q hq=>?_) ⟨x,[],rfl,rfl,rfl,rfl,fun z hz=>by rw [List.mem_singleton.mp hz]; exact hx x (.head _),by simp only [List.length_cons,List.length_nil]; exact lin [_,_] (.a (.a (.n 0) (.n 1)) .x) (.n 3) [(.a .y (.a .x (.n 1)),.n 2)] rfl hl⟩ (fun y hy=>hx y (.tail _ hy)) (by simp only [List.length_append,List.length_cons,List.length_nil]; exact lin [_,_] (.a (.a .x (.n 1)) .y) (.n 2) [(.a .x (.a .y (.n 1)),.n 2)] rfl hl)
   clear hl hx; rcases List.mem_append.mp hq with hq | hq
   ·exact ha q hq
   ·rw [List.mem_singleton.mp hq]
    exact hr.none
theorem pK (X:Item→Prop) {xs:List Item} (hl:xs.length ≤ 3) (hx:∀ x ∈ xs,X x):(grp xs).length ≤ 3∧∀ q ∈ grp xs,jO X 0 q:=by
 cases xs with
 | nil=>exact ⟨Nat.zero_le _,fun q hq=>nomatch hq⟩
 | cons x xs =>
  rw [List.length_cons] at hl
  exact aYa X xs [] (.new x) (fun q hq=>nomatch hq) ⟨x,[],rfl,rfl,rfl,rfl,fun z hz=>by rw [List.mem_singleton.mp hz]; exact hx x (.head _),by simp only [List.length_cons,List.length_nil]; exact lin [_] (.a (.a (.n 0) (.n 1)) .x) (.n 3) [(.a .x (.n 1),.n 3)] rfl hl⟩ (fun y hy=>hx y (.tail _ hy)) (by simp only [List.length_nil]; exact lin [_] (.a (.n 0) .x) (.n 2) [(.a .x (.n 1),.n 3)] rfl hl)
theorem jO.names {X:Item→Prop} {r:Row} (h:jO X 0 r) (hx:∀ x,X x→SL 3 x.name):SL 15 (Str.join ", " r.names):=by
 obtain ⟨y,ys,_,b,_,_,e,f⟩:=h
 rw [b]
 have:=kW (sep:=", ") (aN (m:=2) (by kernel_rfl)) (ys:=(y :: ys).map (·.name)) (m:=3) fun z hz=>by
  clear b; obtain ⟨w,hw,rfl⟩:=List.mem_map.mp hz
  exact hx w (e w hw)
 rw [List.length_map] at this
 exact Nat.le_trans this (by exact lin [_] (.q .x 5) (.n 15) [(.a .x (.n 0),.n 3),(.a .x (.n 0),.n 3),(.a .x (.n 0),.n 3),(.a .x (.n 0),.n 3),(.a .x (.n 0),.n 3)] rfl f f f f f)
theorem zA {tx:Nat→Str} {q:Row} (h:SL 15 (Str.join ", " q.names)) (k:SL 1000000 (tx q.t)):SL 1000021 (bG tx q):=by
 have h0:SL 4 (hd q.var):=by cases q.var <;> exact aN (by kernel_rfl)
 exact aV (aV (aV h0 h) (aN (m:=2) (by kernel_rfl))) k
theorem tD {ys:List Str} {sep:Str} (hs:SL 2 sep) (hl:ys.length ≤ 6) (h:∀ y ∈ ys,SL 1000030 y):(ys.map (·.length)).sum + ys.length * sep.length ≤ lim:=by
 have h1:=vJ h
 have h2:ys.length * 1000030 ≤ 6 * 1000030:=Nat.mul_le_mul_right _ hl
 have h3:ys.length * sep.length ≤ 6 * 2:=Nat.mul_le_mul hl hs
 unfold lim
 exact lin [_,_,_] (.a .x .y) (.n 16777216) [(.x,.q .z 1000030),(.y,.m 6 (.n 2)),(.q .z 1000030,.m 6 (.n 1000030))] rfl h1 h3 h2
noncomputable def dTa:IE:=(.bin .Add (.bin .Add (.bin .Add (.loc 6) (.loc 7)) (.const (.str (": ")))) (.call .ltext (.cons (.loc 0) (.cons (.loc 9) .nil))))
structure LC (Hf:Heap) (tx:Nat→Str) (all:List Row) (as:List Nat) (rs:List Row) (done:List Str) (H:Heap):Prop where
 ext:Ext Hf H
 rows:gU Hf as rs
 cat:done ++ rs.map (bG tx) = all.map (bG tx)
 ok:∀ r ∈ rs,r ∈ all
theorem jGa {cf:aU} {L rl f:Nat} {Hf:Heap} {tx:Nat→Str} {all:List Row} {as:List Nat} {vs:List V} {x3 x4 x5:Option V} (hv:vs = as.map V.ref) (hf:Hf[f]? = some (.list vs)) (hr:gU Hf as all)
  (hT:∀ r ∈ all,SL 15 (Str.join ", " r.names)∧SL 1000000 (tx r.t)∧∀ H,Ext Hf H→W (cf .ltext [.ref L,.ref r.t] H) (Ret H (.str (tx r.t)))) :
  W (fY ⟨vs,.list f vs⟩ (jV (fun v H=>dX [6,7,8,9] true v (lgE L rl f x3 x4 x5) H) (fun env1 H=>dU cf env1 .nil H) (fun env1 H=>aH cf env1 dTa H)) vs Hf) fun us H=>us = (all.map (bG tx)).map V.str∧Ext Hf H:=by
 subst hv
 refine tV (Q:=fun us H=>us = (all.map (bG tx)).map V.str∧Ext Hf H) (fun l acc H=>∃ as rs done,l = as.map V.ref∧acc = done.map V.str∧LC Hf tx all as rs done H) ?_ ?_ ?_ (as.map V.ref) [] Hf ⟨as,all,[],rfl,rfl,Ext.refl _,hr,rfl,fun _ h=>h⟩
 ·rintro l acc H ⟨_,_,_,_,_,c⟩
  exact cO (c.ext.get hf)
 ·rintro v l acc H ⟨as',rs,done,hl,rfl,c⟩
  clear hf hr; cases as' with
  | nil=>first | exact nos hl | exact nof hl | cases hl
  | cons a as' =>
  cases hl
  cases rs with
  | nil=>exact c.rows.elim
  | cons r rs =>
  refine cps fun G_ g_=>?_
  obtain ⟨hrow,hrest⟩:=c.rows
  obtain ⟨t1,t2,t3⟩:=hT r (c.ok r (.head _))
  refine g_ ?_
  clear g_
  have h0:SL 4 (hd r.var):=by cases r.var <;> exact aN (by kernel_rfl)
  have hc:SL 2 (": ":Str):=aN (by kernel_rfl)
  refine xO (env1:=[some (.ref L),some (.ref rl),some (.ref f),x3,x4,x5,some (.str (hd r.var)),some (.str (Str.join ", " r.names)),some (.int r.num),some (.ref r.t)]) (by show (jG H[_]?).bind _ = _; rw [c.ext.get hrow]; rfl) (vAa ⟨fun _=>?_,fun q=>(nomatch q)⟩)
  refine bW (E_p (bR (bR (aA rfl) (aA rfl) h0 t1 rfl) aB (aV h0 t1) hc rfl) (bO (aD (aA rfl) (aD (aA rfl) (aK ((t3 H c.ext).mono fun v H1 k=>?_))))))
  clear t3 hrow hT; obtain ⟨rfl,e1⟩:=k
  refine cH (aV (aV h0 t1) hc) t2 rfl ⟨as',rs,done ++ [bG tx r],rfl,by rw [List.map_append]; rfl,c.ext.trans e1,hrest,by rw [← c.cat,List.append_assoc]; rfl,fun q hq=>c.ok q (.tail _ hq)⟩
 ·rintro acc H ⟨as',rs,done,hl,rfl,c⟩
  clear hf hT hr; cases as' with
  | cons _ _=>first | exact nos hl | exact nof hl | cases hl
  | nil =>
  clear hl; cases rs with
  | cons _ _=>exact c.rows.elim
  | nil =>
  have:=c.cat
  rw [List.map_nil,List.append_nil] at this
  exact ⟨by rw [this],c.ext⟩
theorem hNa {H:Heap} {n L rl:Nat} {xs:List Item} {tx:Nat→Str} (hr:H[rl]? = some (.list (xs.map fun x=>.ref x.o))) (hl:xs.length ≤ 3) (hx:∀ x ∈ xs,TupAt H x∧SL 3 x.name)
  (hT:∀ x ∈ xs,SL 1000000 (tx x.t)∧∀ H',Ext H H'→W (aC tbl n .ltext [.ref L,.ref x.t] H') (Ret H' (.str (tx x.t)))) :
  W (aC tbl (n + 1) .lgrouped [.ref L,.ref rl] H) (Ret H (.str (Str.join "; " ((grp xs).map (bG tx))))):=by
 have hG0:=pK (fun x=>SL 3 x.name∧SL 1000000 (tx x.t)∧∀ H',Ext H H'→W (aC tbl n .ltext [.ref L,.ref x.t] H') (Ret H' (.str (tx x.t)))) hl fun x h=>⟨(hx x h).2,hT x h⟩
 have hG:(grp xs).length ≤ 3∧∀ q ∈ grp xs,SL 15 (Str.join ", " q.names)∧SL 1000000 (tx q.t)∧∀ H',Ext H H'→W (aC tbl n .ltext [.ref L,.ref q.t] H') (Ret H' (.str (tx q.t))):=⟨hG0.1,fun q hq=>by
  have h:=hG0.2 q hq
  refine ⟨h.names fun x hx=>hx.1,?_⟩
  obtain ⟨y,ys,_,_,c,_,e,_⟩:=h
  rw [c]
  exact (e y (.head _)).2⟩
 refine bK (env:=[some (.ref L),some (.ref rl),none,none,none,none,none,none,none,none]) rfl ?_
 refine bC (bU (aK (bJ (aG rfl) fun f H1 x1 g1 m1=>?_)))
 refine cY (gF (E_p (aA rfl) ⟨⟨_,.list rl _⟩,by show itO rl H1[rl]? = _; rw [x1.get hr]; rfl,?_⟩))
 refine lB (LG H L rl f (grp xs)) ?_ (fun v l env H2 h=>mNa h) ?_ _ _ _ (.first rfl rfl hx x1 m1 g1 hl rfl)
 ·intro l env H2 h
  clear m1 g1 x1 hG0 hT hx hl; cases h with
  | first _ _ _ e _ _ _ _=>exact cO (e.get hr)
  | on _ _ _ e _ _ _ _ _ _ _ _=>exact cO (e.get hr)
 ·intro env H2 h
  have fin:∀ {x3 x4 x5:Option V} {as:List Nat} {vs:List V},vs = as.map V.ref→Ext H H2→H2[f]? = some (.list vs)→gU H2 as (grp xs)→env = lgE L rl f x3 x4 x5→Aft (aC tbl n) (.cons (.ret (.bmeth .join (.const (.str ("; "))) (.cons (.comp [6,7,8,9] true (.of (.loc 2)) .nil dTa) .nil))) .nil) (Out (Ret H (.str (Str.join "; " ((grp xs).map (bG tx)))))) (.next,env) H2:=by
   intro x3 x4 x5 as vs hv he hf hrs henv
   clear m1 g1 x1 hG0 hT hx hl; subst henv
   refine aZ (cM (fO (E_p aB ⟨rfl,cF (mD (gF (E_p (aA rfl) ⟨⟨vs,.list f vs⟩,by show itO f H2[f]? = _; rw [hf]; rfl,?_⟩)))⟩)))
   refine (jGa (tx:=tx) hv hf hrs fun r hr=>?_).mono fun us H3 k=>?_
   ·obtain ⟨a,b,c⟩:=hG.2 r hr
    exact ⟨a,b,fun H' e=>c H' (he.trans e)⟩
   ·clear hv; obtain ⟨rfl,e3⟩:=k
    refine bJ (by rw [List.length_map,List.length_map]; exact Nat.le_trans hG.1 (aG rfl)) fun b H4 x4 g4 m4=>aK (mK g4 (tD (aN (by kernel_rfl)) (by rw [List.length_map]; exact Nat.le_trans hG.1 (aG rfl)) fun y hy=>?_) ⟨rfl,he.trans (e3.trans x4)⟩)
    clear m4 g4 e3; obtain ⟨r,hr,rfl⟩:=List.mem_map.mp hy
    obtain ⟨a,b,_⟩:=hG.2 r hr
    exact (zA a b).mono rfl
  clear m1 g1 x1 hG hG0 hT hx hl; cases h with
  | @first xs' x3 x4 x5 he hl' hx' hE hn hf hle hg =>
   cases xs' with
   | cons _ _=>first | exact nos hl' | exact nof hl' | cases hl'
   | nil=>exact fin (as:=[]) rfl hE hf (by rw [← hg]; trivial) he
  | @on xs' x3 x4 x5 as a acc r he hl' hx' hE hn hf hrs hr hne hlen hle hg =>
   clear hle hlen hne hn hx'; cases xs' with
   | cons _ _=>first | exact nos hl' | exact nof hl' | cases hl'
   | nil=>exact fin (as:=as ++ [a]) (by rw [List.map_append]; rfl) hE hf (by rw [← hg]; exact hrs.snoc hr) he
end Mine.C
end
section
namespace Mine.C
open PySem (Expr Stmt Str)
section
variable {cf:aU} {env:Env} {H:Heap}
theorem aPa {f:F} {a:IE} {x v:V} (ha:PE cf env H a x) (h:cf f [x] H = some (v,H)):PE cf env H (.call f (.cons a .nil)) v:=(bI (show bN cf env (.cons a .nil) H = some ([x],H) from bI ha _) _).trans h
theorem uF {f:F} {a b:IE} {x y v:V} (ha:PE cf env H a x) (hb:PE cf env H b y) (h:cf f [x,y] H = some (v,H)):PE cf env H (.call f (.cons a (.cons b .nil))) v :=
 (bI (show bN cf env (.cons a (.cons b .nil)) H = some ([x,y],H) from (bI ha _).trans (bI (show bN cf env (.cons b .nil) H = some ([y],H) from bI hb _) _)) _).trans h
theorem xH {n:Nat} {f:F} {vs:List V} {env:Env} {e:IE} {v:V} {r:ISs} (he:mY (tbl f) vs = some env) (hb:(tbl f).body = .cons (.ret e) r) (h:PE (aC tbl n) env H e v):aC tbl (n + 1) f vs H = some (v,H):=by
 have:W (aC tbl (n + 1) f vs H) fun w H'=>w = v∧H' = H:=bK he (by rw [hb]; exact cC h ⟨rfl,rfl⟩)
 clear h hb he; obtain ⟨a,H1,e1,rfl,rfl⟩:=this.run
 exact e1
end
inductive eUa (H:Heap) (x:Item):Prop where
 | mk (kind exp ro val):H[x.o]? = some (obF x.name kind x.t exp ro val)→x.var = (decide (kind = "par") && !ro)→eUa H x
structure gB (H:Heap) (x:Item):Prop where
 v:eUa H x
 t:dB H x.t x.num
theorem gB.ext {H H':Heap} {x:Item} (h:gB H x) (k:Ext H H'):gB H' x:=let ⟨⟨a,b,c,d,e,f⟩,g⟩:=h; ⟨⟨a,b,c,d,k.get e,f⟩,g.ext k⟩
theorem wV {H:Heap} {x:Item} (h:gB H x) (n:Nat):aC tbl (n + 1) .is_variable [.ref x.o] H = some (.bool x.var,H):=by
 obtain ⟨⟨kind,exp,ro,val,e,hv⟩,_⟩:=h
 refine xH (env:=[some (.ref x.o),none,none,none,none]) rfl rfl ?_
 have h1:PE (aC tbl n) [some (.ref x.o),none,none,none,none] H (.cmp .Eq (.attr (.loc 0) 13) (.const (.str "par"))) (.bool (decide (kind = "par"))):=aR (aF (aA rfl) e rfl) aB rfl
 rw [hv]
 clear hv; cases q:decide (kind = "par") with
 | true=>exact hZa (q ▸ h1) (kEa (aF (aA rfl) e rfl))
 | false=>exact xM (q ▸ h1)
noncomputable def rQ (H:Heap) (a:Nat) (r:Row):Prop:=H[a]? = some (.list (r.os.map V.ref))
noncomputable def dH (H:Heap):List Nat→List Row→Prop
 | [],[]=>True
 | a :: as,r :: rs=>rQ H a r∧dH H as rs
 | _,_=>False
theorem dH.keep {H H':Heap}:∀ {as:List Nat} {rs:List Row},(∀ a ∈ as,∀ o,H[a]? = some o→H'[a]? = some o)→dH H as rs→dH H' as rs
 | [],[],_,_=>trivial
 | a :: as,r :: rs,k,h=>⟨k a (.head _) _ h.1,dH.keep (fun b hb=>k b (.tail _ hb)) h.2⟩
 | [],_ :: _,_,h=>h
 | _ :: _,[],_,h=>h
theorem dH.snoc {H:Heap} {a:Nat} {r:Row} (h:rQ H a r):∀ {as:List Nat} {rs:List Row},dH H as rs→dH H (as ++ [a]) (rs ++ [r])
 | [],[],_=>⟨h,trivial⟩
 | _ :: _,_ :: _,k=>⟨k.1,dH.snoc h k.2⟩
 | [],_ :: _,k=>k.elim
 | _ :: _,[],k=>k.elim
theorem dH.here {H:Heap}:∀ {as:List Nat} {rs:List Row},dH H as rs→∀ a ∈ as,∃ o,H[a]? = some o
 | [],_,_,a,ha=>nomatch ha
 | _ :: _,_ :: _,h,a,ha=>by
  rcases List.mem_cons.mp ha with rfl | ha
  ·exact ⟨_,h.1⟩
  ·exact dH.here h.2 a ha
 | _ :: _,[],h,_,_=>h.elim
inductive hRa (Hs:Heap) (r:Row) (k:Nat):Prop where
 | mk (os y):r.os = os ++ [y.o]→y.num = r.num→y.var = r.var→gB Hs y→os.length + k ≤ 3→hRa Hs r k
noncomputable abbrev pgE (ol f:Nat) (x2 x3:Option V):Env:=[some (.ref ol),some (.ref f),x2,x3,none,none,none,none]
inductive PG (Hs:Heap) (ol f:Nat) (all:List Row) (l:List V) (env:Env) (H:Heap):Prop where
 | first {xs:List Item} {x2 x3:Option V}:env = pgE ol f x2 x3→l = xs.map (fun x=>.ref x.o)→(∀ x ∈ xs,gB Hs x)→Ext Hs H→Hs[f]? = none→H[f]? = some (.list [])→xs.length ≤ 3→grp xs = all→PG Hs ol f all l env H
 | on {xs:List Item} {x2 x3:Option V} {as:List Nat} {a:Nat} {acc:List Row} {r:Row}:env = pgE ol f x2 x3→l = xs.map (fun x=>.ref x.o)→(∀ x ∈ xs,gB Hs x)→Ext Hs H→Hs[f]? = none→H[f]? = some (.list (as.map V.ref ++ [.ref a])) →
   dH H as acc→rQ H a r→(f ≠ a∧f ∉ as∧a ∉ as)→Hs[a]? = none∧(∀ c ∈ as,Hs[c]? = none)→hRa Hs r xs.length→as.length + xs.length ≤ 3→eQ acc r xs = all→PG Hs ol f all l env H
noncomputable def rAa:ISs:=(.cons (.ite (.val (.cmp .Gt (.blt .len (.cons (.loc 1) .nil)) (.const (.int (0))))) (.cons (.setl 3 (.sub (.sub (.loc 1) (.neg (.const (.int (1))))) (.neg (.const (.int (1))))))
 (.cons (.ite (.and (.val (.cmp .Eq (.attr (.attr (.loc 3) 14) 0) (.attr (.attr (.loc 2) 14) 0))) (.val (.cmp .Eq (.call .is_variable (.cons (.loc 3) .nil)) (.call .is_variable (.cons (.loc 2) .nil))))) (.cons (.expr (.bmeth .append (.sub (.loc 1) (.neg (.const (.int (1))))) (.cons (.loc 2) .nil)))
 (.cons .cont
 .nil)) .nil)
 .nil)) .nil)
 (.cons (.expr (.bmeth .append (.loc 1) (.cons (.list (.cons (.loc 2) .nil)) .nil)))
 .nil))
theorem fKa {cf:aU} {ol f:Nat} {x:Item} {x3:Option V} {H:Heap} {vs:List V} {Q:Fl × Env→Heap→Prop} (hf:H[f]? = some (.list vs)) (hl:vs.length ≤ 1000)
  (q:∀ H' b,But f H H'→H'[f]? = some (.list (vs ++ [.ref b]))→rQ H' b (.new x)→H[b]? = none→Q (.next,pgE ol f (some (.ref x.o)) x3) H') :
  W (aJ cf (.cons (.expr (.bmeth .append (.loc 1) (.cons (.list (.cons (.loc 2) .nil)) .nil))) .nil) (pgE ol f (some (.ref x.o)) x3) H) Q:=by
 refine iK (fO (E_p (aA rfl) ⟨lU (.inl rfl) hf,cF (bU (aD (aA rfl) (aK (bJ (aG rfl) fun b H1 x2 g2 m2=>aK ?_))))⟩))
 have hn:b ≠ f:=(bV hf m2).symm
 exact nY (x2.get hf) hl fun H2 s2=>aX (q H2 b (x2.but.trans s2.but) s2.self (s2.get hn g2) m2)
theorem jSa {Hs:Heap} {ol f:Nat} {all:List Row} {n:Nat} {v:V} {l:List V} {env:Env} {H:Heap} {Q:Fl × Env→Heap→Prop} (h:PG Hs ol f all (v :: l) env H) :
  W (lV (fun v env H=>dX [2] false v env H) (aJ (aC tbl (n + 1)) rAa) v env H) fun x H1=>match x.1 with | .ret _=>Q x H1 | _=>PG Hs ol f all l x.2 H1:=by
 cases h with
 | @first xs x2 x3 he hl hx hE hn hf hle hg =>
  subst he
  cases xs with
  | nil=>first | exact nos hl | exact nof hl | cases hl
  | cons x xs =>
  cases hl
  have ox:=hx x (.head _)
  refine dM (env1:=pgE ol f (some (.ref x.o)) x3) rfl (bH (aO (aR (gM (aA rfl) hf) aB rfl)) (bF ?_))
  refine fKa hf (aG rfl) fun H2 b b2 g2 r2 m2=>?_
  rw [List.length_cons] at hle
  exact .on (as:=[]) (acc:=[]) (r:=.new x) rfl rfl (fun y hy=>hx y (.tail _ hy)) (fun c o q=>b2 c o (fun w=>by rw [w,hn] at q; cases q) (hE.get q)) hn g2 trivial r2 ⟨bV hf m2,by simp,by simp⟩ ⟨hE.none m2,fun c hc=>nomatch hc⟩ ⟨[],x,rfl,rfl,rfl,ox,by simp only [List.length_nil]; exact lin [_] (.a (.n 0) .x) (.n 3) [(.a .x (.n 1),.n 3)] rfl hle⟩ (by simp only [List.length_nil]; exact lin [_] (.a (.n 0) .x) (.n 3) [(.a .x (.n 1),.n 3)] rfl hle) hg
 | @on xs x2 x3 as a acc r he hl hx hE hn hf hrs hr hdis ha hlast hle hg =>
  subst he
  cases xs with
  | nil=>first | exact nos hl | exact nof hl | cases hl
  | cons x xs =>
  cases hl
  have ox:=(hx x (.head _)).ext hE
  refine cps fun G_ g_=>?_
  obtain ⟨os,y,hos,hy1,hy2,oy,hol⟩:=hlast
  have oy':=oy.ext hE
  obtain ⟨⟨kx,ex,rx,vx,xe,xv⟩,⟨f1,s1,b1,l1,z1,p1,m1,q1,i1,tx⟩⟩:=id ox
  obtain ⟨⟨ky,ey,ry,vy,ye,yv⟩,⟨f2,s2,b2,l2,z2,p2,m2,q2,i2,ty⟩⟩:=id oy'
  refine g_ ?_
  clear g_
  rw [List.length_cons] at hle hol
  have hra:H[a]? = some (.list (os.map V.ref ++ [.ref y.o])):=by have:=hr; unfold rQ at this; rw [hos,List.map_append] at this; exact this
  have hlen:PT (aC tbl (n + 1)) (pgE ol f (some (.ref x.o)) x3) H (.val (.cmp .Gt (.blt .len (.cons (.loc 1) .nil)) (.const (.int (0))))) true:=by
   refine aO (aR (gM (aA rfl) hf) aB ?_)
   show some (decide _) = _
   rw [decide_eq_true]
   simp only [List.length_append,List.length_cons,List.length_nil]
   exact dD (lin [_] (.a (.n 0) (.n 1)) (.a .x (.n 1)) [] rfl)
  have hrow:∀ {x3},PE (aC tbl (n + 1)) (pgE ol f (some (.ref x.o)) x3) H (.sub (.loc 1) (.neg (.const (.int (1))))) (.ref a):=cQ (aA rfl) (jE aB) hf rF
  refine dM (env1:=pgE ol f (some (.ref x.o)) x3) rfl (cJ hlen (gA (v:=.ref y.o) (cQ hrow (jE aB) hra rF) ?_))
  have new:(¬ (r.num = x.num∧r.var = x.var))→_:=fun hno=>fKa (cf:=aC tbl (n + 1)) (ol:=ol) (x:=x) (x3:=some (.ref y.o)) (Q:=fun x H1=>match x.1 with | .ret _=>Q x H1 | _=>PG Hs ol f all (xs.map fun x=>.ref x.o) x.2 H1) hf (by simp only [List.length_append,List.length_map,List.length_cons,List.length_nil]; exact lin [_,_] (.a .x (.a (.n 0) (.n 1))) (.n 1000) [(.a .x (.a .y (.n 1)),.n 3)] rfl hle) fun H2 b b2 g2 r2 m2=>(by
   have hg':eQ (acc ++ [r]) (.new x) xs = all:=by rw [← hg]; show _ = (if r.num = x.num∧r.var = x.var then _ else _); rw [if_neg hno]
   have hb:∀ c ∈ as,c ≠ b:=fun c hc=>by obtain ⟨o,e⟩:=hrs.here c hc; exact bV e m2
   refine .on (as:=as ++ [a]) (acc:=acc ++ [r]) rfl rfl (fun y hy=>hx y (.tail _ hy)) (fun c o q=>b2 c o (fun w=>by rw [w,hn] at q; cases q) (hE.get q)) hn (by rw [g2,List.map_append]; rfl) ((hrs.keep fun c hc o e=>b2 c o (fun w=>hdis.2.1 (w ▸ hc)) e).snoc (b2 _ _ hdis.1.symm hr)) r2
    ⟨bV hf m2,?_,?_⟩ ⟨hE.none m2,fun c hc=>(List.mem_append.mp hc).elim (ha.2 c) fun hc=>by rw [List.mem_singleton.mp hc]; exact ha.1⟩ ⟨[],x,rfl,rfl,rfl,hx x (.head _),by simp only [List.length_nil]; exact lin [_,_] (.a (.n 0) .x) (.n 3) [(.a .y (.a .x (.n 1)),.n 3)] rfl hle⟩ (by simp only [List.length_append,List.length_cons,List.length_nil]; exact lin [_,_] (.a (.a .x (.n 1)) .y) (.n 3) [(.a .x (.a .y (.n 1)),.n 3)] rfl hle) hg'
   ·intro q
    clear r2 g2 b2 hlen yv xv oy hle; rcases List.mem_append.mp q with q | q
    ·exact hdis.2.1 q
    ·exact hdis.1 (List.mem_singleton.mp q)
   ·intro q
    clear r2 g2 b2 hlen yv xv oy hle; rcases List.mem_append.mp q with q | q
    ·exact hb _ q rfl
    ·exact (bV hr m2) (List.mem_singleton.mp q).symm)
  have hnum:PT (aC tbl (n + 1)) (pgE ol f (some (.ref x.o)) (some (.ref y.o))) H (.val (.cmp .Eq (.attr (.attr (.loc 3) 14) 0) (.attr (.attr (.loc 2) 14) 0))) (decide (y.num = x.num)):=aO (aR (aF (aF (aA rfl) ye rfl) ty rfl) (aF (aF (aA rfl) xe rfl) tx rfl) rfl)
  have hvar:PT (aC tbl (n + 1)) (pgE ol f (some (.ref x.o)) (some (.ref y.o))) H (.val (.cmp .Eq (.call .is_variable (.cons (.loc 3) .nil)) (.call .is_variable (.cons (.loc 2) .nil)))) (y.var == x.var):=aO (aR (aPa (aA rfl) (wV oy' n)) (aPa (aA rfl) (wV ox n)) rfl)
  by_cases hyes:r.num = x.num∧r.var = x.var
  ·rw [decide_eq_true (hy1.trans hyes.1)] at hnum
   rw [show (y.var == x.var) = true by rw [hy2,hyes.2]; exact beq_self_eq_true _] at hvar
   refine cJ (gO hnum hvar) (mQ hrow (aA rfl) hra (by simp only [List.length_append,List.length_map,List.length_cons,List.length_nil]; exact lin [_,_] (.a .x (.a (.n 0) (.n 1))) (.n 1000) [(.a .x (.a .y (.n 1)),.n 3)] rfl hol) fun H2 s2=>tB ?_)
   have hg':eQ acc (r.add x) xs = all:=by rw [← hg]; show _ = (if r.num = x.num∧r.var = x.var then _ else _); rw [if_pos hyes]
   refine .on (as:=as) (acc:=acc) (r:=r.add x) rfl rfl (fun y hy=>hx y (.tail _ hy)) (hE.set s2 ha.1) hn (s2.get hdis.1 hf) (hrs.keep fun c hc o e=>s2.get (fun w=>hdis.2.2 (w ▸ hc)) e) ?_ hdis ha ⟨os ++ [y.o],x,by show r.os ++ [x.o] = _; rw [hos],hyes.1.symm,hyes.2.symm,hx x (.head _),?_⟩ (Nat.le_of_lt (by assumption)) hg'
   ·show H2[a]? = some (.list ((r.os ++ [x.o]).map V.ref))
    rw [s2.self,hos,List.map_append,List.map_append]; rfl
   ·simp only [List.length_append,List.length_cons,List.length_nil]; exact lin [_,_] (.a (.a .x (.a (.n 0) (.n 1))) .y) (.n 3) [(.a .x (.a .y (.n 1)),.n 3)] rfl hol
  ·have hno:PT (aC tbl (n + 1)) (pgE ol f (some (.ref x.o)) (some (.ref y.o))) H (.and (.val (.cmp .Eq (.attr (.attr (.loc 3) 14) 0) (.attr (.attr (.loc 2) 14) 0))) (.val (.cmp .Eq (.call .is_variable (.cons (.loc 3) .nil)) (.call .is_variable (.cons (.loc 2) .nil))))) false:=by
    clear hrow hlen hra ty yv ye tx xv xe oy' hol oy hos ox hg hle hx ha hdis hr hrs hf hn hE; by_cases q:y.num = x.num
    ·rw [decide_eq_true q] at hnum
     rw [show (y.var == x.var) = false by rw [beq_eq_false_iff_ne]; exact fun w=>hyes ⟨hy1.symm.trans q,hy2.symm.trans w⟩] at hvar
     exact gO hnum hvar
    ·rw [decide_eq_false q] at hnum
     exact jH hnum
   exact bH hno (bF (aX (aZ (new hyes))))
end Mine.C
end
section
namespace Mine.C
open PySem (Expr Stmt Str)
theorem hUa {H:Heap} {n ol:Nat} {xs:List Item} (ho:H[ol]? = some (.list (xs.map fun x=>.ref x.o))) (hl:xs.length ≤ 3) (hx:∀ x ∈ xs,gB H x) :
  W (aC tbl (n + 2) .grouped [.ref ol] H) fun v H'=>∃ f as,v = .ref f∧H'[f]? = some (.list (as.map V.ref))∧dH H' as (grp xs)∧Ext H H'∧H[f]? = none∧∀ a ∈ as,H[a]? = none:=by
 refine bK (env:=[some (.ref ol),none,none,none,none,none,none,none]) rfl ?_
 refine bC (bU (aK (bJ (aG rfl) fun f H1 x1 g1 m1=>?_)))
 refine cY (gF (E_p (aA rfl) ⟨⟨_,.list ol _⟩,by show itO ol H1[ol]? = _; rw [x1.get ho]; rfl,?_⟩))
 refine lB (PG H ol f (grp xs)) ?_ (fun v l env H2 h=>jSa h) ?_ _ _ _ (.first rfl rfl hx x1 m1 g1 hl rfl)
 ·intro l env H2 h
  clear m1 g1 x1 hx hl; cases h with
  | first _ _ _ e _ _ _ _=>exact cO (e.get ho)
  | on _ _ _ e _ _ _ _ _ _ _ _ _=>exact cO (e.get ho)
 ·intro env H2 h
  clear m1 g1 x1 hx hl ho; cases h with
  | @first xs' x2 x3 he hl' hx' hE hn hf hle hg =>
   subst he
   cases xs' with
   | cons _ _=>first | exact nos hl' | exact nof hl' | cases hl'
   | nil=>exact aZ (cC (aA rfl) ⟨f,[],rfl,hf,by rw [← hg]; trivial,hE,hn,fun a ha=>nomatch ha⟩)
  | @on xs' x2 x3 as a acc r he hl' hx' hE hn hf hrs hr hdis ha hlast hle hg =>
   clear hle hlast hdis hx'; subst he
   cases xs' with
   | cons _ _=>first | exact nos hl' | exact nof hl' | cases hl'
   | nil=>exact aZ (cC (aA rfl) ⟨f,as ++ [a],rfl,by rw [hf,List.map_append]; rfl,by rw [← hg]; exact hrs.snoc hr,hE,hn,fun c hc=>by
     clear hg hl' hr hrs hf hn hE; rcases List.mem_append.mp hc with hc | hc
     ·exact ha.2 c hc
     ·rw [List.mem_singleton.mp hc]; exact ha.1⟩)
section
variable {cf:aU} {env:Env} {H:Heap}
theorem xR {it:It} {bind:V→Heap→Option Env} {ts:ITs} {elt:IE} {p:V→Bool} {g:V→V} (hok:it.ok H = true):∀ vs:List V,(∀ v ∈ vs,∃ env1,bind v H = some env1∧dU cf env1 ts H = some (p v,H)∧(p v = true→PE cf env1 H elt (g v))) →
  fY it (jV bind (fun env1 H=>dU cf env1 ts H) (fun env1 H=>aH cf env1 elt H)) vs H = some ((vs.filter p).map g,H)
 | [],_=>by show aP (it.ok H) _ = _; rw [hok]; rfl
 | v :: r,h=>by
  show aP (it.ok H) _ = _
  rw [hok]
  obtain ⟨env1,h1,h2,h3⟩:=h v (.head _)
  have ih:=xR hok r fun w hw=>h w (.tail _ hw)
  have hs:jV bind (fun env1 H=>dU cf env1 ts H) (fun env1 H=>aH cf env1 elt H) v H = some ((if p v = true then some (g v) else none),H):=by
   refine (bI (show cD (bind v H) H = some (env1,H) by rw [h1]; rfl) _).trans ((bI h2 _).trans ?_)
   clear h2 h1 h hok; cases q:p v with
   | true=>exact bI (h3 q) _
   | false=>rfl
  refine (bI (m:=jV bind _ _ v H) hs (fun x H1=>bnd (fY it (jV bind (fun env1 H=>dU cf env1 ts H) (fun env1 H=>aH cf env1 elt H)) r H1) fun xs H2=>some (x.toList ++ xs,H2))).trans ((bI ih _).trans ?_)
  rw [List.filter_cons]
  clear hs ih h3 h2 h1 h hok; cases p v <;> rfl
theorem nC {t:List Nat} {u:Bool} {i:II} {ts:ITs} {elt:IE} {it:It} {p:V→Bool} {g:V→V} {Q:V→Heap→Prop} (hi:fJ cf env i H = some (it,H)) (hok:it.ok H = true) (hl:it.items.length ≤ 1000) (h:∀ v ∈ it.items,∃ env1,dX t u v env H = some env1∧dU cf env1 ts H = some (p v,H)∧(p v = true→PE cf env1 H elt (g v)))
  (q:kJ H Q (.list ((it.items.filter p).map g))):W (aH cf env (.comp t u i ts elt) H) Q :=
 mD (W.of hi (W.of (xR hok it.items h) (bJ (by rw [List.length_map]; exact Nat.le_trans (List.length_filter_le _ _) hl) q)))
theorem iJ {e:IE} {a:Nat} {vs:List V} (h:PE cf env H e (.ref a)) (g:H[a]? = some (.list vs)):fJ cf env (.of e) H = some (⟨vs,.list a vs⟩,H):=(bI h (fun v H1=>cD (mX v H1) H1)).trans (by show cD (itO a H[a]?) H = _; rw [g]; rfl)
theorem filter_all {α:Type} (l:List α):l.filter (fun _=>true) = l:=List.filter_eq_self.mpr fun _ _=>rfl
end
theorem lIa {H:Heap} {p al sc nr n:Nat} {x:Item} (hp:H[p]? = some (nmF al sc nr)) (h:gB H x) (hs:SL 3 x.name):aC tbl (n + 1) .marked_name [.ref p,.ref x.o] H = some (.str x.name,H):=by
 obtain ⟨⟨kind,exp,ro,val,e,hv⟩,_⟩:=h
 refine xH (env:=[some (.ref p),some (.ref x.o),none,none,none,none]) rfl rfl ?_
 have ht:PT (aC tbl n) [some (.ref p),some (.ref x.o),none,none,none,none] H (.and (.val (.attr (.loc 1) 16)) (.val (.attr (.loc 0) 28))) false:=by
  have h1:PT (aC tbl n) [some (.ref p),some (.ref x.o),none,none,none,none] H (.val (.attr (.loc 1) 16)) exp:=aO (aF (aA rfl) e rfl)
  clear hv; cases exp with
  | true=>exact gO h1 (aO (aF (aA rfl) hp rfl))
  | false=>exact jH h1
 have:=bR (a:=.attr (.loc 1) 12) (aF (aA rfl) e rfl) (gK (a:=.const (.str "*")) ht (aB (v:=.str ""))) hs (aN (m:=0) (by kernel_rfl)) rfl
 rwa [show (x.name ++ ("":Str)) = x.name from Str.append_empty _] at this
end Mine.C
end
section
namespace Mine.C
open PySem (Expr Stmt Str)
noncomputable def nmV (H:Heap) (v:V):V:=(eO v 12 H).getD .none
theorem cCa {H:Heap} {z:Item} (h:gB H z):nmV H (.ref z.o) = .str z.name:=by
 obtain ⟨⟨_,_,_,_,e,_⟩,_⟩:=h
 unfold nmV
 rw [cT e rfl]; rfl
theorem iFa {v:V} {r:List V}:((place 0 (v :: r).length).bind fun j=>(v :: r)[j]?) = some v:=by
 have h:place 0 (v :: r).length = some 0:=by
  unfold place
  rw [if_pos ⟨Int.le_refl _,by rw [List.length_cons]; exact dD (lin [_] (.a (.n 0) (.n 1)) (.a .x (.n 1)) [] rfl)⟩]; rfl
 rw [h]; rfl
theorem iAa {cf:aU} {env:Env} {H:Heap} {re elt:IE} {a i:Nat} {zs:List Item} (hl:PE cf env H re (.ref a)) (hrow:H[a]? = some (.list (zs.map fun z=>.ref z.o))) (hlen:zs.length ≤ 3) (hz:∀ z ∈ zs,gB H z∧SL 3 z.name∧PE cf (bB i (.ref z.o) env) H elt (.str z.name)) {Q:V→Heap→Prop}
  (q:∀ H',Ext H H'→Q (.str (Str.join ", " (zs.map (·.name)))) H'):W (aH cf env (.bmeth .join (.const (.str (", "))) (.cons (.comp [i] false (.of re) .nil elt) .nil)) H) Q:=by
 refine fO (E_p aB ⟨rfl,cF (nC (p:=fun _=>true) (g:=nmV H) (iJ hl hrow) (cO hrow) (by show (zs.map _).length ≤ _; rw [List.length_map]; exact lin [_] .x (.n 1000) [(.x,.n 3)] rfl hlen) (fun v hv=>?_) fun b H1 x1 g1 m1=>aK ?_)⟩)
 ·obtain ⟨z,hm,rfl⟩:=List.mem_map.mp (show v ∈ zs.map fun z=>V.ref z.o from hv)
  obtain ⟨h1,_,h3⟩:=hz z hm
  exact ⟨_,rfl,rfl,fun _=>by rw [cCa h1]; exact h3⟩
 ·have e:((zs.map fun z=>V.ref z.o).filter fun _=>true).map (nmV H) = (zs.map (·.name)).map V.str:=by
   rw [filter_all,List.map_map,List.map_map]
   exact List.map_congr_left fun z hm=>cCa (hz z hm).1
  refine mK (ys:=zs.map (·.name)) (by rw [g1]; exact congrArg (fun l=>some (O.list l)) e) (tD (aN (by kernel_rfl)) (by rw [List.length_map]; exact lin [_] .x (.n 6) [(.x,.n 3)] rfl hlen) fun y hy=>?_) (q H1 x1)
  obtain ⟨z,hm,rfl⟩:=List.mem_map.mp hy
  exact (hz z hm).2.1.mono rfl
structure PX (cf:aU) (p:Nat) (tx:Nat→Str) (Hs:Heap) (x:Item):Prop where
 n:SL 3 x.name
 o:gB Hs x
 s:SL 1000000 (tx x.t)
 w:∀ H',Ext Hs H'→W (cf .type_text [.ref p,.ref x.t] H') (Ret H' (.str (tx x.t)))
structure RT (Hs Hg:Heap) (pf:Nat) (tx:Nat→Str) (all:List Row) (as:List Nat) (rs:List Row) (done:List Str) (H:Heap):Prop where
 ext:Ext Hs H
 rows:dH Hg as rs
 but:But pf Hg H
 ne:∀ a ∈ as,a ≠ pf
 parts:H[pf]? = some (.list (done.map V.str))
 cat:done ++ rs.map (bG tx) = all.map (bG tx)
 ok:∀ r ∈ rs,r ∈ all
theorem dH.zip {H:Heap}:∀ {as:List Nat} {rs:List Row},dH H as rs→∃ l:List (Nat × Row),as = l.map (·.1)∧rs = l.map (·.2)
 | [],[],_=>⟨[],rfl,rfl⟩
 | a :: as,r :: rs,h=>let ⟨l,e1,e2⟩:=dH.zip (as:=as) (rs:=rs) h.2; ⟨(a,r) :: l,congrArg (a :: ·) e1,congrArg (r :: ·) e2⟩
 | [],_ :: _,h=>h.elim
 | _ :: _,[],h=>h.elim
noncomputable abbrev RZ (Hs Hg:Heap) (pf:Nat) (tx:Nat→Str) (all:List Row) (l:List (Nat × Row)) (done:List Str) (H:Heap):Prop:=RT Hs Hg pf tx all (l.map (·.1)) (l.map (·.2)) done H
theorem RZ.first {Hs Hg:Heap} {pf:Nat} {tx:Nat→Str} {all:List Row} {l:List (Nat × Row)} (h:all = l.map (·.2)) (e:Ext Hs Hg) (r:dH Hg (l.map (·.1)) all) (n:∀ a ∈ l.map (·.1),a ≠ pf) (g:Hg[pf]? = some (.list [])):RZ Hs Hg pf tx all l [] Hg :=
 ⟨e,h ▸ r,fun _ _ _ e=>e,n,g,by rw [← h]; rfl,fun r hr=>h ▸ hr⟩
theorem row_end {cf:aU} {env:Env} {Hs Hg H:Heap} {pf a p:Nat} {tx:Nat→Str} {all:List Row} {as:List Nat} {r:Row} {rs:List Row} {done:List Str} {pe he ne re:IE} {Q:Fl × Env→Heap→Prop} (c:RT Hs Hg pf tx all (a :: as) (r :: rs) done H) (hn:Hs[pf]? = none) (hl:all.length ≤ 3)
  (h0:PE cf env H pe (.ref pf)) (h1:PE cf env H he (.str (hd r.var ++ Str.join ", " r.names))) (h2:PE cf env H ne (.ref p)) (h3:PE cf env H re (.ref r.t)) (hs:SL 15 (Str.join ", " r.names)) (ht:SL 1000000 (tx r.t)) (hT:∀ H',Ext Hs H'→W (cf .type_text [.ref p,.ref r.t] H') (Ret H' (.str (tx r.t))))
  (q:∀ H',RT Hs Hg pf tx all as rs (done ++ [bG tx r]) H'→Q (.next,env) H') :
  W (aJ cf (.cons (.expr (.bmeth .append pe (.cons (.bin .Add (.bin .Add he (.const (.str (": ")))) (.call .type_text (.cons ne (.cons re .nil)))) .nil))) .nil) env H) Q:=by
 have s0:SL 4 (hd r.var):=by cases r.var <;> exact aN (by kernel_rfl)
 have s1:SL 2 (": ":Str):=aN (by kernel_rfl)
 refine iK (fO (E_p h0 ⟨lU (.inl rfl) c.parts,cF (bW (E_p (bR h1 aB (aV s0 hs) s1 rfl) (bO (aD h2 (aD h3 (aK ((hT H c.ext).mono fun v H1 k=>?_)))))))⟩))
 obtain ⟨rfl,e1⟩:=k
 refine cH (aV (aV s0 hs) s1) ht rfl (aK (nY (e1.get c.parts) ?_ fun H2 s2=>aX (q H2 ⟨(c.ext.trans e1).set s2 hn,c.rows.2,c.but.trans (e1.but.trans s2.but),fun b hb=>c.ne b (.tail _ hb),?_,?_,fun r hr=>c.ok r (.tail _ hr)⟩)))
 ·have:=congrArg List.length c.cat
  simp only [List.length_append,List.length_map,List.length_cons] at this ⊢
  exact lin [_,_,_] .x (.n 1000) [(.a .x (.a .y (.n 1)),.z),(.z,.n 3)] rfl (Nat.le_of_eq this) hl
 ·rw [s2.self,List.map_append]; rfl
 ·rw [← c.cat,List.append_assoc]; rfl
end Mine.C
end
section
namespace Mine.C
open PySem (Expr Stmt Str)
noncomputable def nM (h:Str) (ys:List Str):Str:=match ys with
 | []=>h ++ " END"
 | y :: r=>h ++ " " ++ Str.join "; " (y :: r) ++ " END"
noncomputable def lA (b:Option Str):Str:=match b with
 | none=>"RECORD"
 | some t=>"RECORD" ++ " (" ++ t ++ ")"
noncomputable def kJa:ISs:=(.cons (.setl 4 (.list .nil))
 (.cons (.for [5] false (.of (.call .grouped (.cons (.loc 2) .nil))) (.cons (.setl 6 (.bmeth .join (.const (.str (", "))) (.cons (.comp [7] false (.of (.loc 5)) .nil (.call .marked_name (.cons (.loc 0) (.cons (.loc 7) .nil)))) .nil)))
 (.cons (.expr (.bmeth .append (.loc 4) (.cons (.bin .Add (.bin .Add (.loc 6) (.const (.str (": ")))) (.call .type_text (.cons (.loc 0) (.cons (.attr (.sub (.loc 5) (.const (.int (0)))) 14) .nil)))) .nil)))
 .nil)))
 (.cons (.ite (.val (.cmp .Eq (.blt .len (.cons (.loc 4) .nil)) (.const (.int (0))))) (.cons (.ret (.bin .Add (.loc 3) (.const (.str (" END")))))
 .nil) .nil)
 (.cons (.ret (.bin .Add (.bin .Add (.bin .Add (.loc 3) (.const (.str (" ")))) (.bmeth .join (.const (.str ("; "))) (.cons (.loc 4) .nil))) (.const (.str (" END")))))
 .nil))))
theorem eRa {all:List Row} {tx:Nat→Str} (hl:all.length ≤ 3) (hs:∀ r ∈ all,SL 15 (Str.join ", " r.names)∧SL 1000000 (tx r.t)):∀ y ∈ all.map (bG tx),SL 1000021 y:=fun y hy=>by
 clear hl; obtain ⟨r,hr,rfl⟩:=List.mem_map.mp hy
 exact zA (hs r hr).1 (hs r hr).2
noncomputable def rcE (p t fl:Nat) (h:Str) (pf:Nat) (x5 x6:Option V):Env:=[some (.ref p),some (.ref t),some (.ref fl),some (.str h),some (.ref pf),x5,x6,none,none,none,none]
inductive RcI (Hs Hg:Heap) (pf:Nat) (tx:Nat→Str) (all:List Row) (p t fl:Nat) (h:Str) (l:List (Nat × Row)) (H:Heap):Env→Prop where
 | mk (done:List Str) (x5 x6:Option V):RZ Hs Hg pf tx all l done H→RcI Hs Hg pf tx all p t fl h l H (rcE p t fl h pf x5 x6)
theorem bQa {H H1:Heap} {n p t fl al sc nr:Nat} {xs:List Item} {tx:Nat→Str} {h:Str} (hp:H[p]? = some (nmF al sc nr)) (hf:H[fl]? = some (.list (xs.map fun x=>.ref x.o))) (hl:xs.length ≤ 3) (hx:∀ x ∈ xs,PX (aC tbl (n + 2)) p tx H x∧x.var = false) (hh:SL 1000020 h) (e1:Ext H H1) :
  W (aJ (aC tbl (n + 2)) kJa [some (.ref p),some (.ref t),some (.ref fl),some (.str h),none,none,none,none,none,none,none] H1) (Out (Ret H (.str (nM h ((grp xs).map (bG tx)))))):=by
 obtain ⟨hG1,hG2⟩:=pK (fun x=>PX (aC tbl (n + 2)) p tx H x∧x.var = false) hl hx
 have hrow:∀ r ∈ grp xs,SL 15 (Str.join ", " r.names)∧SL 1000000 (tx r.t):=fun r hr=>by
  refine ⟨(hG2 r hr).names fun x hx=>hx.1.n,?_⟩
  obtain ⟨y,ys,_,_,c,_,e,_⟩:=hG2 r hr
  rw [c]; exact (e y (.head _)).1.s
 refine bC (bU (aK (bJ (aG rfl) fun pf H2 x2 g2 m2=>?_)))
 have e2:=e1.trans x2
 have hn:H[pf]? = none:=e1.none m2
 refine cY (gF (bO (aD (aA rfl) (aK ((hUa (e2.get hf) hl fun x h=>(hx x h).1.o.ext e2).mono fun v Hg k=>?_)))))
 refine cps fun G_ g_=>?_
 clear m2 x2 e1 hx hl hf; obtain ⟨f,as,rfl,kf,kr,ke,kn,ka⟩:=k
 obtain ⟨its,rfl,hz⟩:=kr.zip
 refine g_ ?_
 clear g_
 rw [List.map_map] at kf
 refine ⟨⟨_,.list f _⟩,by show itO f Hg[f]? = _; rw [kf]; rfl,?_⟩
 refine pX (V.ref ∘ fun q:Nat × Row=>q.1) (RcI H Hg pf tx (grp xs) p t fl h) ?_ ?_ ?_ its _ _ (.mk [] none none (.first hz (e2.trans ke) kr (fun a ha=>(bV g2 (ka a ha)).symm) (ke.get g2)))
 ·rintro l env H' ⟨_,_,_,c⟩
  exact cO (c.but _ _ (bV g2 kn).symm kf)
 ·rintro ⟨a,r⟩ rs env H' ⟨done,x5,x6,c⟩
  refine cps fun G_ g_=>?_
  obtain ⟨y,ys,o1,o2,o3,o4,o5,o6⟩:=hG2 r (c.ok r (.head _))
  have ha:H'[a]? = some (.list ((y :: ys).map fun z=>.ref z.o)):=by
   rw [c.but _ _ (c.ne a (.head _)) c.rows.1,o1,List.map_map]; rfl
  obtain ⟨⟨ky,ex,rx,vx,ye,yv⟩,_⟩:=(o5 y (.head _)).1.o.ext c.ext
  refine g_ ?_
  clear g_
  have hv:hd r.var ++ Str.join ", " r.names = Str.join ", " ((y :: ys).map (·.name)):=by rw [o4,(o5 y (.head _)).2,o2]; exact Str.empty_append _
  refine dM (env1:=rcE p t fl h pf (some (.ref a)) x6) rfl ?_
  refine bC (iAa (zs:=y :: ys) (aA rfl) ha (by exact o6) (fun z hz=>?_) fun H3 x3=>?_)
  ·obtain ⟨q1,_⟩:=o5 z hz
   exact ⟨q1.o.ext c.ext,q1.n,uF (aA rfl) (aA rfl) (lIa (c.ext.get hp) (q1.o.ext c.ext) q1.n)⟩
  ·have c3:RZ H Hg pf tx (grp xs) ((a,r) :: rs) done H3:=⟨c.ext.trans x3,c.rows,c.but.trans x3.but,c.ne,x3.get c.parts,c.cat,c.ok⟩
   refine row_end c3 hn hG1 (aA rfl) (aA (by rw [hv]; rfl)) (aA rfl) (by rw [o3]; exact aF (cQ (aA rfl) aB (x3.get ha) iFa) (x3.get ye) rfl) (hrow r (c.ok r (.head _))).1 (hrow r (c.ok r (.head _))).2 (by rw [o3]; exact (o5 y (.head _)).1.w) fun H4 c4=>?_
   exact .mk _ _ _ c4
 ·rintro env H' ⟨done,x5,x6,c⟩
  have hd:done = (grp xs).map (bG tx):=(List.append_nil _).symm.trans c.cat
  have hroom:=eRa hG1 hrow
  rw [← hd] at hroom ⊢
  have hdl:done.length ≤ 3:=by rw [hd,List.length_map]; exact hG1
  refine aZ ?_
  have se:SL 4 (" END":Str):=aN (by kernel_rfl)
  clear hd ka kr kf hz kn ke hn e2 g2 hrow hG2 hG1 hp; cases done with
  | nil=>exact cJ (aO (aR (gM (aA rfl) c.parts) aB rfl)) (cC (bR (aA rfl) aB hh se rfl) ⟨rfl,c.ext⟩)
  | cons y0 r0 =>
   refine bH (aO (aR (gM (aA rfl) c.parts) aB ?_)) (bF ?_)
   ·show some (decide _) = _
    rw [decide_eq_false]
    simp only [List.length_map,List.length_cons]
    exact znz
   ·have s1:SL 1 (" ":Str):=aN (by kernel_rfl)
    have hj:SL 3000069 (Str.join "; " (y0 :: r0)):=Nat.le_trans (kW (aN (m:=2) (by kernel_rfl)) hroom) (Nat.mul_le_mul_right 1000023 hdl)
    refine cC (bR (bR (bR (aA rfl) aB hh s1 rfl) (sV aB rfl (vs:=[.ref pf]) rfl ?_) (aV hh s1) hj rfl) aB (aV (aV hh s1) hj) se rfl) ⟨rfl,c.ext⟩
    have hw:W (dI .join (.str "; ") [.ref pf] H') fun v H2=>v = .str (Str.join "; " (y0 :: r0))∧H2 = H':=mK c.parts (tD (aN (by kernel_rfl)) (Nat.le_trans (by assumption) (by decide)) fun y hy=>(hroom y hy).mono rfl) ⟨rfl,rfl⟩
    clear hj s1 hdl hroom c se hh; obtain ⟨v,H2,e,rfl,rfl⟩:=hw.run
    exact e
end Mine.C
end
section
namespace Mine.C
open PySem (Expr Stmt Str)
noncomputable def vC (g:Nat→Heap→Option (V × Heap)) (H:Heap) (base:V) (bt:Option Str):Prop:=(base = .none∧bt = none) ∨ ∃ b s,base = .ref b∧bt = some s∧SL 1000000 s∧∀ H',Ext H H'→W (g b H') (Ret H' (.str s))
theorem cRa {g:Nat→Heap→Option (V × Heap)} {H:Heap} {base:V} {bt:Option Str} (h:vC g H base bt):SL 1000009 (lA bt):=by
 rcases h with ⟨_,rfl⟩ | ⟨b,s,_,rfl,hs,_⟩
 ·exact aN (by kernel_rfl)
 ·exact aV (aV (aV (aN (m:=6) (by kernel_rfl)) (aN (m:=2) (by kernel_rfl))) hs) (aN (m:=1) (by kernel_rfl))
theorem uTa {H:Heap} {n p t fl al sc nr fs ps hid:Nat} {num size len:Int} {form mod lab:Str} {base:V} {bt:Option Str} {xs:List Item} {tx:Nat→Str} (hp:H[p]? = some (nmF al sc nr)) (ht:H[t]? = some (tyF num form size base len fs ps mod lab hid)) (hb:vC (fun b H=>aC tbl (n + 2) .type_text [.ref p,.ref b] H) H base bt)
  (hf:H[fl]? = some (.list (xs.map fun x=>.ref x.o))) (hl:xs.length ≤ 3) (hx:∀ x ∈ xs,PX (aC tbl (n + 2)) p tx H x∧x.var = false) :
  W (aC tbl (n + 3) .record_text [.ref p,.ref t,.ref fl] H) (Ret H (.str (nM (lA bt) ((grp xs).map (bG tx))))):=by
 have hh:=cRa hb
 refine bK (env:=[some (.ref p),some (.ref t),some (.ref fl),none,none,none,none,none,none,none,none]) rfl ?_
 refine gA aB ?_
 rcases hb with ⟨rfl,rfl⟩ | ⟨b,s,rfl,rfl,hs,hT⟩
 ·exact bH (aO (aR (aF (aA rfl) ht rfl) aB rfl)) (bF (bQa hp hf hl hx (hh.mono rfl) (Ext.refl _)))
 ·refine cJ (aO (aR (aF (aA rfl) ht rfl) aB rfl)) ?_
  have s0:SL 6 ("RECORD":Str):=aN (by kernel_rfl)
  have s1:SL 2 (" (":Str):=aN (by kernel_rfl)
  refine bC (bW (bW (E_p (bR (aA rfl) aB s0 s1 rfl) (bO (aD (aA rfl) (aD (aF (aA rfl) ht rfl) (aK ((hT H (Ext.refl _)).mono fun v H1 k=>?_))))))))
  obtain ⟨rfl,e1⟩:=k
  refine cH (aV s0 s1) hs rfl (E_p aB ?_)
  exact cH (aV (aV s0 s1) hs) (aN (m:=1) (by kernel_rfl)) rfl (aX (aZ (bQa hp hf hl hx (hh.mono rfl) e1)))
noncomputable def shown (fl:List Fd) (nu:Nat→Int):List Item:=(fl.filter (·.exp)).map fun f=>⟨f.o,f.name,false,nu f.t,f.t⟩
theorem wMa {H:Heap} {n p t b fs ps hid:Nat} {num size len:Int} {lab mod s:Str} (ht:H[t]? = some (tyF num "array" size (.ref b) len fs ps mod lab hid)) (hl:1 ≤ len∧len ≤ 9) (hs:SL 1000000 s) (hT:W (aC tbl n .type_text [.ref p,.ref b] H) (Ret H (.str s))) :
  W (aC tbl (n + 1) .structure_text [.ref p,.ref t] H) (Ret H (.str ("ARRAY " ++ (toString len:String) ++ " OF " ++ s))):=by
 refine bK (env:=[some (.ref p),some (.ref t),none,none,none,none]) rfl ?_
 have h1:∀ e,PE (aC tbl n) [some (.ref p),some (.ref t),none,none,none,none] H (.cmp .Eq (.attr (.loc 1) 1) (.const (.str e))) (.bool (decide (("array":Str) = e))):=fun e=>aR (aF (aA rfl) ht rfl) aB rfl
 refine cJ (aO (by have:=h1 "array"; rwa [decide_eq_true rfl] at this)) (bH (aO (aR (aF (aA rfl) ht rfl) aB (by show some (decide (len < 0)) = _; rw [decide_eq_false (by exact dWa hl)]))) (bF ?_))
 have s0:SL 6 ("ARRAY ":Str):=aN (by kernel_rfl)
 have s1:SL 4 (toString len:String):=pI (by exact rD hl (by decide))
 have s2:SL 4 (" OF ":Str):=aN (by kernel_rfl)
 refine cM (bW (E_p (bR (bR aB (jX (aF (aA rfl) ht rfl) (by exact rD hl (by decide))) s0 s1 rfl) aB (aV s0 s1) s2 rfl) (bO (aD (aA rfl) (aD (aF (aA rfl) ht rfl) (aK (hT.mono fun v H1 k=>?_)))))))
 obtain ⟨rfl,e1⟩:=k
 exact cH (aV (aV s0 s1) s2) hs rfl ⟨rfl,e1⟩
theorem oQa {H:Heap} {n p t b fs ps hid:Nat} {num size len:Int} {lab mod s:Str} (ht:H[t]? = some (tyF num "pointer" size (.ref b) len fs ps mod lab hid)) (hs:SL 1000000 s) (hT:W (aC tbl n .type_text [.ref p,.ref b] H) (Ret H (.str s))) :
  W (aC tbl (n + 1) .structure_text [.ref p,.ref t] H) (Ret H (.str ("POINTER TO " ++ s))):=by
 refine bK (env:=[some (.ref p),some (.ref t),none,none,none,none]) rfl ?_
 have h1:∀ {e b},decide (("pointer":Str) = e) = b→PT (aC tbl n) [some (.ref p),some (.ref t),none,none,none,none] H (.val (.cmp .Eq (.attr (.loc 1) 1) (.const (.str e)))) b:=fun h=>aO (aR (aF (aA rfl) ht rfl) aB (congrArg some h))
 refine bH (h1 (by decide +kernel)) (bF (bH (h1 (by decide +kernel)) (bF (cJ (h1 (by decide +kernel)) ?_))))
 refine cM (bW (E_p aB (bO (aD (aA rfl) (aD (aF (aA rfl) ht rfl) (aK (hT.mono fun v H1 k=>?_)))))))
 obtain ⟨rfl,e1⟩:=k
 exact cH (aN (m:=11) (by kernel_rfl)) hs rfl ⟨rfl,e1⟩
noncomputable def fdOf (H:Heap) (v:V):Bool:=match (eO v 16 H) with
 | some (.bool b)=>b
 | _=>false
theorem uJ {H:Heap} {f:Fd} (h:H[f.o]? = some (obF f.name "field" f.t f.exp false .none)):fdOf H (.ref f.o) = f.exp:=by unfold fdOf; rw [cT h rfl]
theorem lNa {H:Heap} {n p t al sc nr fs ps hid:Nat} {num size len:Int} {mod lab:Str} {base:V} {bt:Option Str} {fl:List Fd} {nu:Nat→Int} {tx:Nat→Str} (hp:H[p]? = some (nmF al sc nr)) (ht:H[t]? = some (tyF num "record" size base len fs ps mod lab hid)) (hb:vC (fun b H=>aC tbl (n + 2) .type_text [.ref p,.ref b] H) H base bt)
  (hf:H[fs]? = some (.list (fl.map fun f=>.ref f.o))) (hl:fl.length ≤ 3) (hx:∀ f ∈ fl,H[f.o]? = some (obF f.name "field" f.t f.exp false .none)∧SL 3 f.name∧dB H f.t (nu f.t)∧SL 1000000 (tx f.t)∧∀ H',Ext H H'→W (aC tbl (n + 2) .type_text [.ref p,.ref f.t] H') (Ret H' (.str (tx f.t)))) :
  W (aC tbl (n + 4) .structure_text [.ref p,.ref t] H) (Ret H (.str (nM (lA bt) ((grp (shown fl nu)).map (bG tx))))):=by
 refine bK (env:=[some (.ref p),some (.ref t),none,none,none,none]) rfl ?_
 have h1:∀ {e b},decide (("record":Str) = e) = b→PT (aC tbl (n + 3)) [some (.ref p),some (.ref t),none,none,none,none] H (.val (.cmp .Eq (.attr (.loc 1) 1) (.const (.str e)))) b:=fun h=>aO (aR (aF (aA rfl) ht rfl) aB (congrArg some h))
 refine bH (h1 (by decide +kernel)) (bF (cJ (h1 (by decide +kernel)) ?_))
 refine cM (bO (aD (aA rfl) (aD (aA rfl) (cF (nC (p:=fdOf H) (g:=id) (iJ (aF (aA rfl) ht rfl) hf) (cO hf) (by show (fl.map _).length ≤ _; rw [List.length_map]; exact lin [_] .x (.n 1000) [(.x,.n 3)] rfl hl) (fun v hv=>?_) fun c H1 x1 g1 m1=>aK ?_)))))
 ·obtain ⟨f,hm,rfl⟩:=List.mem_map.mp (show v ∈ fl.map fun f=>V.ref f.o from hv)
  have hfd:=(hx f hm).1
  have ht:PT (aC tbl (n + 3)) [some (.ref p),some (.ref t),some (.ref f.o),none,none,none] H (.or (.val (.attr (.loc 0) 28)) (.val (.attr (.loc 2) 16))) f.exp:=dSa (aO (aF (aA rfl) hp rfl)) (aO (aF (aA rfl) hfd rfl))
  refine ⟨[some (.ref p),some (.ref t),some (.ref f.o),none,none,none],rfl,?_,fun _=>aA rfl⟩
  rw [uJ hfd]
  exact (bI ht _).trans (by cases f.exp <;> rfl)
 ·have e:(((fl.map fun f=>V.ref f.o).filter (fdOf H)).map id) = (shown fl nu).map fun x=>V.ref x.o:=by
   rw [List.map_id,List.filter_map]
   unfold shown
   rw [List.map_map]
   refine congrArg _ ?_
   exact List.filter_congr fun f hm=>uJ (hx f hm).1
  have hsh:(shown fl nu).length ≤ 3:=by unfold shown; rw [List.length_map]; exact Nat.le_trans (List.length_filter_le _ _) hl
  refine (uTa (xs:=shown fl nu) (x1.get hp) (x1.get ht) ?_ (by rw [g1]; exact congrArg (fun l=>some (O.list l)) e) hsh fun x hm=>?_).mono fun v H2 k=>⟨k.1,x1.trans k.2⟩
  ·rcases hb with h | ⟨b,s,q1,q2,q3,q4⟩
   ·exact .inl h
   ·exact .inr ⟨b,s,q1,q2,q3,fun H' e'=>q4 H' (x1.trans e')⟩
  ·unfold shown at hm
   obtain ⟨f,hmf,rfl⟩:=List.mem_map.mp hm
   obtain ⟨q1,q2,q3,q4,q5⟩:=hx f (List.mem_filter.mp hmf).1
   exact ⟨⟨q2,⟨⟨_,_,_,_,x1.get q1,(by decide +kernel:false = (decide (("field":Str) = "par") && !false))⟩,q3.ext x1⟩,q4,fun H' e'=>q5 H' (x1.trans e')⟩,rfl⟩
end Mine.C
end
section
namespace Mine.C
open PySem (Expr Stmt Str)
noncomputable def Item.er (x:Item):Item:={ x with o:=0 }
noncomputable def Row.er (r:Row):Row:={ r with os:=[] }
theorem Row.er_eq {r r':Row} (h:r.er = r'.er):r.var = r'.var∧r.names = r'.names∧r.num = r'.num∧r.t = r'.t:=by
 cases r; first | exact nos r' | exact nof r' | cases r'
 unfold Row.er at h
 injection h with a b c d
 exact ⟨a,b,c,d⟩
theorem Item.er_eq {x x':Item} (h:x.er = x'.er):x.name = x'.name∧x.var = x'.var∧x.num = x'.num∧x.t = x'.t:=by
 cases x; first | exact nos x' | exact nof x' | cases x'
 unfold Item.er at h
 injection h with _ a b c d
 exact ⟨a,b,c,d⟩
theorem zN:∀ (xs xs':List Item) (acc acc':List Row) (r r':Row),xs.map Item.er = xs'.map Item.er→acc.map Row.er = acc'.map Row.er→r.er = r'.er→(eQ acc r xs).map Row.er = (eQ acc' r' xs').map Row.er
 | [],[],acc,acc',r,r',_,ha,hr=>by
  show (acc ++ [r]).map Row.er = (acc' ++ [r']).map Row.er
  rw [List.map_append,List.map_append,ha,List.map_cons,List.map_cons,hr]
 | x :: xs,y :: ys,acc,acc',r,r',hx,ha,hr=>by
  rw [List.map_cons,List.map_cons] at hx
  injection hx with h1 h2
  obtain ⟨a1,a2,a3,a4⟩:=Item.er_eq h1
  obtain ⟨b1,b2,b3,b4⟩:=Row.er_eq hr
  rw [uR,uR]
  rw [b3,b1,a3,a2]
  clear h1; split
  ·exact zN xs ys acc acc' _ _ h2 ha (by show Row.mk r.var (r.names ++ [x.name]) r.num r.t [] = Row.mk r'.var (r'.names ++ [y.name]) r'.num r'.t []; rw [b1,b2,b3,b4,a1])
  ·exact zN xs ys _ _ _ _ h2 (by rw [List.map_append,List.map_append,ha,List.map_cons,List.map_cons,hr]) (by show Row.mk x.var [x.name] x.num x.t [] = Row.mk y.var [y.name] y.num y.t []; rw [a1,a2,a3,a4])
 | [],_ :: _,_,_,_,_,h,_,_=>by cases h
 | _ :: _,[],_,_,_,_,h,_,_=>by cases h
theorem hXa {xs xs':List Item} (h:xs.map Item.er = xs'.map Item.er) (tx:Nat→Str):(grp xs).map (bG tx) = (grp xs').map (bG tx):=by
 have hg:(grp xs).map Row.er = (grp xs').map Row.er:=by
  cases xs with
  | nil=>cases xs' with
   | nil=>rfl
   | cons _ _=>first | exact nos h | exact nof h | cases h
  | cons x xs=>cases xs' with
   | nil=>first | exact nos h | exact nof h | cases h
   | cons y ys =>
    rw [List.map_cons,List.map_cons] at h
    injection h with h1 h2
    obtain ⟨a1,a2,a3,a4⟩:=Item.er_eq h1
    exact zN xs ys [] [] _ _ h2 rfl (by show Row.mk x.var [x.name] x.num x.t [] = Row.mk y.var [y.name] y.num y.t []; rw [a1,a2,a3,a4])
 have e:∀ l:List Row,l.map (bG tx) = (l.map Row.er).map (bG tx):=fun l=>by rw [List.map_map]; rfl
 rw [e,hg,← e]
section
variable {cf:aU} {H:Heap}
theorem fLa {it:It} {bind:V→Heap→Option Env} {ts:ITs} {he ne te:IE} {zs:List Item} {keep:Item→Bool} (hok:∀ H1,Ext H H1→it.ok H1 = true) (h:∀ z ∈ zs,∀ H1,Ext H H1→∃ env1,bind (.ref z.o) H1 = some env1∧dU cf env1 ts H1 = some (keep z,H1)∧PE cf env1 H1 he (.str (hd z.var))∧PE cf env1 H1 ne (.str z.name)∧PE cf env1 H1 te (.ref z.t)) :
  W (fY it (jV bind (fun env1 H=>dU cf env1 ts H) (fun env1 H=>aH cf env1 (.tuple (.cons he (.cons ne (.cons te .nil)))) H)) (zs.map fun z=>.ref z.o) H) fun us H1 =>
   ∃ xs:List Item,us = xs.map (fun x=>.ref x.o)∧xs.map Item.er = (zs.filter keep).map Item.er∧Ext H H1∧∀ x ∈ xs,H1[x.o]? = some (.tuple [.str (hd x.var),.str x.name,.ref x.t])∧∃ z ∈ zs,z.er = x.er:=by
 refine tV (Q:=fun us H1=>∃ xs:List Item,us = xs.map (fun x=>.ref x.o)∧xs.map Item.er = (zs.filter keep).map Item.er∧Ext H H1∧∀ x ∈ xs,H1[x.o]? = some (.tuple [.str (hd x.var),.str x.name,.ref x.t])∧∃ z ∈ zs,z.er = x.er)
  (fun l acc H1=>∃ (zr:List Item) (xs:List Item),l = zr.map (fun z=>.ref z.o)∧acc = xs.map (fun x=>.ref x.o)∧(∀ z ∈ zr,z ∈ zs)∧xs.map Item.er ++ (zr.filter keep).map Item.er = (zs.filter keep).map Item.er∧Ext H H1∧∀ x ∈ xs,H1[x.o]? = some (.tuple [.str (hd x.var),.str x.name,.ref x.t])∧∃ z ∈ zs,z.er = x.er) ?_ ?_ ?_ _ [] H
  ⟨zs,[],rfl,rfl,fun _ h=>h,rfl,Ext.refl _,fun x hx=>nomatch hx⟩
 ·rintro l acc H1 ⟨_,_,_,_,_,_,e,_⟩
  exact hok H1 e
 ·rintro v l acc H1 ⟨zr,xs,hl,rfl,hz,hc,e,hx⟩
  clear hok; cases zr with
  | nil=>first | exact nos hl | exact nof hl | cases hl
  | cons z zr =>
  cases hl
  obtain ⟨env1,k1,k2,k3,k4,k5⟩:=h z (hz z (.head _)) H1 e
  refine xO k1 (W.of k2 ⟨fun hk=>?_,fun hk=>?_⟩)
  ·refine fV (aD k3 (aD k4 (aD k5 (aK (iM (aG rfl) fun a H2 x2 g2 m2=>?_)))))
   refine ⟨zr,xs ++ [{ z with o:=a }],rfl,by rw [List.map_append]; rfl,fun w hw=>hz w (.tail _ hw),?_,e.trans x2,fun x hx'=>?_⟩
   ·rw [List.filter_cons,if_pos hk] at hc
    rw [← hc,List.map_append,List.append_assoc]; rfl
   ·clear m2 k5 k4 k3 k2 k1 h; rcases List.mem_append.mp hx' with hx' | hx'
    ·exact ⟨x2.get (hx x hx').1,(hx x hx').2⟩
    ·rw [List.mem_singleton.mp hx']
     exact ⟨g2,z,hz z (.head _),rfl⟩
  ·refine ⟨zr,xs,rfl,by show _ ++ [] = _; rw [List.append_nil],fun w hw=>hz w (.tail _ hw),?_,e,hx⟩
   rw [List.filter_cons,if_neg (by rw [hk]; exact fun q=>nomatch q)] at hc
   exact hc
 ·rintro acc H1 ⟨zr,xs,hl,rfl,hz,hc,e,hx⟩
  clear hz h hok; cases zr with
  | cons _ _=>first | exact nos hl | exact nof hl | cases hl
  | nil=>exact ⟨xs,rfl,by rw [← hc]; simp,e,hx⟩
end
end Mine.C
end
section
namespace Mine.C
open PySem (Expr Stmt Str)
theorem wH (a:Str):a ++ ("":Str) = a:=Str.append_empty a
section
variable {cf:aU} {env:Env} {H:Heap} {Q:V→Heap→Prop}
theorem mL {t:IT} {a b:IE} (h:PT cf env H t true) (k:W (aH cf env a H) Q):W (aH cf env (.ite t a b) H) Q:=nQ (T_p h ⟨fun _=>k,fun q=>nomatch q⟩)
theorem mZ {t:IT} {a b:IE} (h:PT cf env H t false) (k:W (aH cf env b H) Q):W (aH cf env (.ite t a b) H) Q:=nQ (T_p h ⟨fun q=>(nomatch q),fun _=>k⟩)
end
theorem sJa {H:Heap} {n l t b fs ps hid:Nat} {num size len:Int} {lab mod s:Str} (ht:H[t]? = some (tyF num "array" size (.ref b) len fs ps mod lab hid)) (hl:1 ≤ len∧len ≤ 9) (hs:SL 1000000 s) (hT:W (aC tbl n .ltext [.ref l,.ref b] H) (Ret H (.str s))) :
  W (aC tbl (n + 1) .lstructure [.ref l,.ref t] H) (Ret H (.str ("ARRAY " ++ (toString len:String) ++ " OF " ++ s))):=by
 refine bK (env:=[some (.ref l),some (.ref t),none,none,none,none,none]) rfl ?_
 refine cJ (aO (aR (aF (aA rfl) ht rfl) aB (by show some (decide _) = _; rw [decide_eq_true rfl]))) ?_
 have s0:SL 6 ("ARRAY ":Str):=aN (by kernel_rfl)
 have s1:SL 4 (toString len:String):=pI (by exact rD hl (by decide))
 have s2:SL 1 (" ":Str):=aN (by kernel_rfl)
 have s3:SL 3 ("OF ":Str):=aN (by kernel_rfl)
 refine cM (bW (E_p (bR (bR aB (gK (aO (aR (aF (aA rfl) ht rfl) aB (by show some (decide (len < 0)) = _; rw [decide_eq_false (by exact dWa hl)]))) (bR (jX (aF (aA rfl) ht rfl) (rD hl (by decide))) aB s1 s2 rfl)) s0 (aV s1 s2) rfl) aB (aV s0 (aV s1 s2)) s3 rfl) (bO (aD (aA rfl) (aD (aF (aA rfl) ht rfl) (aK (hT.mono fun v H1 k=>?_)))))))
 clear hT hl ht; obtain ⟨rfl,e1⟩:=k
 refine cH (aV (aV s0 (aV s1 s2)) s3) hs rfl ⟨?_,e1⟩
 have e:(" OF ":Str) = " " ++ "OF ":=by kernel_rfl
 rw [e]
 simp only [Str.append_assoc]
theorem uZa {H:Heap} {n l t b fs ps hid:Nat} {num size len:Int} {lab mod s:Str} (ht:H[t]? = some (tyF num "pointer" size (.ref b) len fs ps mod lab hid)) (hs:SL 1000000 s) (hT:W (aC tbl n .ltext [.ref l,.ref b] H) (Ret H (.str s))) :
  W (aC tbl (n + 1) .lstructure [.ref l,.ref t] H) (Ret H (.str ("POINTER TO " ++ s))):=by
 refine bK (env:=[some (.ref l),some (.ref t),none,none,none,none,none]) rfl ?_
 have h1:∀ {e b},decide (("pointer":Str) = e) = b→PT (aC tbl n) [some (.ref l),some (.ref t),none,none,none,none,none] H (.val (.cmp .Eq (.attr (.loc 1) 1) (.const (.str e)))) b:=fun h=>aO (aR (aF (aA rfl) ht rfl) aB (congrArg some h))
 refine bH (h1 (by decide +kernel)) (bF (cJ (h1 (by decide +kernel)) ?_))
 refine cM (bW (E_p aB (bO (aD (aA rfl) (aD (aF (aA rfl) ht rfl) (aK (hT.mono fun v H1 k=>?_)))))))
 clear h1 hT ht; obtain ⟨rfl,e1⟩:=k
 exact cH (aN (m:=11) (by kernel_rfl)) hs rfl ⟨rfl,e1⟩
theorem sHa {y:Str} {r:List Str} (h:1 ≤ y.length):Str.join "; " (y :: r) ≠ "":=fun q=>by
 have h1:=congrArg Str.length q
 rw [show Str.length ("":Str) = 0 by kernel_rfl] at h1
 clear q; cases r with
 | nil=>have h1:y.length = 0:=h1; exact rB [_] [(.n 1,.x),(.x,.n 0)] rfl h (Nat.le_of_eq h1)
 | cons z r =>
  have h1:(y ++ "; " ++ Str.join "; " (z :: r)).length = 0:=h1
  rw [Str.length_append,Str.length_append] at h1
  exact rB [_,_,_] [(.n 1,.x),(.a (.a .x .y) .z,.n 0)] rfl h (Nat.le_of_eq h1)
theorem pYa {tx:Nat→Str} {r:Row}:1 ≤ (bG tx r).length:=by
 unfold bG
 rw [Str.length_append,Str.length_append,show Str.length (": ":Str) = 2 by kernel_rfl]
 exact lin [_,_] (.n 1) (.a (.a .x (.n 2)) .y) [] rfl
structure FdX (cf:aU) (l:Nat) (nu:Nat→Int) (tx:Nat→Str) (H:Heap) (f:Fd):Prop where
 g:H[f.o]? = some (obF f.name "field" f.t f.exp false .none)
 n:SL 3 f.name
 t:dB H f.t (nu f.t)
 s:SL 1000000 (tx f.t)
 w:∀ H',Ext H H'→W (cf .ltext [.ref l,.ref f.t] H') (Ret H' (.str (tx f.t)))
theorem jUa {H:Heap} {n l t fs ps hid:Nat} {num size len:Int} {mod lab:Str} {base:V} {bt:Option Str} {fl:List Fd} {nu:Nat→Int} {tx:Nat→Str} (ht:H[t]? = some (tyF num "record" size base len fs ps mod lab hid)) (hb:vC (fun b H=>aC tbl (n + 1) .ltext [.ref l,.ref b] H) H base bt)
  (hf:H[fs]? = some (.list (fl.map fun f=>.ref f.o))) (hl:fl.length ≤ 3) (hx:∀ f ∈ fl,FdX (aC tbl n) l nu tx H f) :
  W (aC tbl (n + 2) .lstructure [.ref l,.ref t] H) (Ret H (.str (nM (lA bt) ((grp (shown fl nu)).map (bG tx))))):=by
 have hX:=cRa hb
 refine bK (env:=[some (.ref l),some (.ref t),none,none,none,none,none]) rfl ?_
 have h1:∀ {e b},decide (("record":Str) = e) = b→PT (aC tbl (n + 1)) [some (.ref l),some (.ref t),none,none,none,none,none] H (.val (.cmp .Eq (.attr (.loc 1) 1) (.const (.str e)))) b:=fun h=>aO (aR (aF (aA rfl) ht rfl) aB (congrArg some h))
 refine bH (h1 (by decide +kernel)) (bF (bH (h1 (by decide +kernel)) (bF ?_)))
 let zs:List Item:=fl.map fun f=>⟨f.o,f.name,false,nu f.t,f.t⟩
 have hfz:H[fs]? = some (.list (zs.map fun z=>.ref z.o)):=by rw [hf,List.map_map]; rfl
 refine bC (bO (aD (aA rfl) (cF (mD (gF (E_p (aF (aA rfl) ht rfl) ⟨⟨_,.list fs _⟩,by show itO fs H[fs]? = _; rw [hfz]; rfl,?_⟩))))))
 refine (fLa (it:=⟨zs.map fun z=>.ref z.o,.list fs (zs.map fun z=>.ref z.o)⟩) (zs:=zs) (keep:=fun z=>fdOf H (.ref z.o)) (fun H1 e=>cO (e.get hfz)) fun z hz H1 e=>?_).mono fun us H1 k=>?_
 ·clear hfz h1 hX hf; obtain ⟨f,hm,rfl⟩:=List.mem_map.mp hz
  obtain ⟨q1,_⟩:=hx f hm
  have q1':=e.get q1
  refine ⟨[some (.ref l),some (.ref t),none,some (.ref f.o),none,none,none],rfl,?_,aB,aF (aA rfl) q1' rfl,aF (aA rfl) q1' rfl⟩
  rw [uJ q1]
  have ht:PT (aC tbl (n + 1)) [some (.ref l),some (.ref t),none,some (.ref f.o),none,none,none] H1 (.val (.attr (.loc 3) 16)) f.exp:=aO (aF (aA rfl) q1' rfl)
  exact (bI ht _).trans (by cases f.exp <;> rfl)
 refine cps fun G_ g_=>?_
 clear hfz h1 hX hf; obtain ⟨xs,rfl,ker,e1,hxs⟩:=k
 refine g_ ?_
 clear g_
 have hsh:zs.filter (fun z=>fdOf H (.ref z.o)) = shown fl nu:=by
  unfold shown
  rw [List.filter_map]
  exact congrArg _ (List.filter_congr fun f hm=>uJ (hx f hm).1)
 rw [hsh] at ker
 have hlen:xs.length ≤ 3:=by
  have:=congrArg List.length ker
  rw [List.length_map,List.length_map] at this
  rw [this]
  unfold shown
  rw [List.length_map]
  exact Nat.le_trans (List.length_filter_le _ _) hl
 have hrows:=hXa ker tx
 refine bJ (by rw [List.length_map]; exact lin [_] .x (.n 1000) [(.x,.n 3)] rfl hlen) fun rl H2 x2 g2 m2=>aK ?_
 have e2:=e1.trans x2
 have hit:∀ x ∈ xs,∃ f ∈ fl,f.name = x.name∧false = x.var∧nu f.t = x.num∧f.t = x.t:=fun x h=>by
  refine cps fun G_ g_=>?_
  obtain ⟨z,hz,hzx⟩:=(hxs x h).2
  clear m2 hsh e1 ker hl; obtain ⟨f,hm,rfl⟩:=List.mem_map.mp hz
  obtain ⟨a,b,c,d⟩:=Item.er_eq hzx
  refine g_ ?_
  clear g_
  exact ⟨f,hm,a,b,c,d⟩
 refine (hNa (tx:=tx) g2 hlen (fun x h=>?_) fun x h=>?_).mono fun v H3 k=>?_
 ·obtain ⟨f,hm,a,b,c,d⟩:=hit x h
  obtain ⟨q1,q2,q3,_⟩:=hx f hm
  exact ⟨⟨x2.get (hxs x h).1,by rw [← c,← d]; exact q3.ext e2⟩,by rw [← a]; exact q2⟩
 ·obtain ⟨f,hm,a,b,c,d⟩:=hit x h
  obtain ⟨_,_,_,q4,q5⟩:=hx f hm
  rw [← d]
  exact ⟨q4,fun H' e'=>q5 H' (e2.trans e')⟩
 clear m2 g2 x2 hsh hxs e1 ker hl; obtain ⟨rfl,e3⟩:=k
 rw [hrows]
 have e3:=e2.trans e3
 have hgl:(grp (shown fl nu)).length ≤ 3:=by
  have hg:=pK (fun _=>True) hlen fun _ _=>trivial
  have:=congrArg List.length hrows
  rw [List.length_map,List.length_map] at this
  rw [← this]; exact hg.1
 have hml:((grp (shown fl nu)).map (bG tx)).length ≤ 3:=by rw [List.length_map]; exact hgl
 have hroom:∀ y ∈ (grp (shown fl nu)).map (bG tx),SL 1000021 y:=by
  rw [← hrows]
  obtain ⟨_,hg2⟩:=pK (fun x=>SL 3 x.name∧SL 1000000 (tx x.t)) hlen fun x h=>by
   obtain ⟨f,hm,a,b,c,d⟩:=hit x h
   rw [← a,← d]
   exact ⟨(hx f hm).n,(hx f hm).s⟩
  intro y hy
  clear hgl hit e2 hrows hlen; obtain ⟨r,hr,rfl⟩:=List.mem_map.mp hy
  have h:=hg2 r hr
  refine zA (h.names fun x hx=>hx.1) ?_
  obtain ⟨y,ys,_,_,c,_,e,_⟩:=h
  rw [c]; exact (e y (.head _)).2
 have s0:SL 6 ("RECORD":Str):=aN (by kernel_rfl)
 have s1:SL 2 (" (":Str):=aN (by kernel_rfl)
 have s2:SL 1 (")":Str):=aN (by kernel_rfl)
 have s3:SL 1 (" ":Str):=aN (by kernel_rfl)
 have s4:SL 4 (" END":Str):=aN (by kernel_rfl)
 have hj:SL 3000069 (Str.join "; " ((grp (shown fl nu)).map (bG tx))):=Nat.le_trans (kW (aN (m:=2) (by kernel_rfl)) hroom) (Nat.mul_le_mul_right 1000023 hml)
 have tail:∀ (h:Str) (H':Heap),SL 1000009 h→Ext H H'→h = lA bt→∀ Q:V→Heap→Prop,(Q (.str (nM (lA bt) ((grp (shown fl nu)).map (bG tx)))) H') →
   W (aH (aC tbl (n + 1)) [some (.ref l),some (.ref t),some (.str (Str.join "; " ((grp (shown fl nu)).map (bG tx)))),none,none,none,none] (.ite (.val (.cmp .Eq (.loc 2) (.const (.str (""))))) (.const (.str (""))) (.bin .Add (.const (.str (" "))) (.loc 2))) H') fun y H2=>W (iH .Add (.str h) y H2) fun x H3=>W (aH (aC tbl (n + 1)) [some (.ref l),some (.ref t),some (.str (Str.join "; " ((grp (shown fl nu)).map (bG tx)))),none,none,none,none] (.const (.str (" END"))) H3) fun y H4=>W (iH .Add x y H4) Q:=by
  intro h H' hh e hr Q q
  clear e hroom hml hgl hit e2 hrows hlen hx; cases hc:(grp (shown fl nu)).map (bG tx) with
  | nil =>
   rw [hc] at q
   refine E_p (kZ (aO (aR (aA rfl) aB (by show some (decide _) = _; rw [decide_eq_true (by kernel_rfl)]))) aB) ?_
   refine cH hh (aN (m:=0) (by kernel_rfl)) rfl (E_p aB ?_)
   rw [wH,hr]
   rw [hr] at hh
   exact cH hh s4 rfl q
  | cons y r =>
   rw [hc] at q hj
   have hy:1 ≤ y.length:=by
    have:y ∈ (grp (shown fl nu)).map (bG tx):=by rw [hc]; exact .head _
    clear hc; obtain ⟨w,_,rfl⟩:=List.mem_map.mp this
    exact pYa
   refine E_p (gK (aO (aR (aA rfl) aB (by show some (decide _) = _; rw [decide_eq_false (sHa hy)]))) (bR aB (aA rfl) s3 hj rfl)) ?_
   refine cH hh (aV s3 hj) rfl (E_p aB ?_)
   refine cH (aV hh (aV s3 hj)) s4 rfl ?_
   rw [hr,← Str.append_assoc (lA bt)]
   exact q
 refine cM (bW (bW (bW (E_p aB ?_))))
 clear hj s4 s3 hroom hml hgl hit e2 hrows hlen hx; rcases hb with ⟨rfl,rfl⟩ | ⟨b,s,rfl,rfl,hs,hT⟩
 ·refine mL (aO (aR (aF (aA rfl) (e3.get ht) rfl) aB rfl)) (E_p aB (cH s0 (aN (m:=0) (by kernel_rfl)) rfl ?_))
  exact tail _ H3 (SL.mono (aV s0 (aN (m:=0) (by kernel_rfl))) rfl) e3 (wH _) _ ⟨rfl,e3⟩
 ·refine mZ (aO (aR (aF (aA rfl) (e3.get ht) rfl) aB rfl)) (bW (bW (E_p aB (bO (aD (aA rfl) (aD (aF (aA rfl) (e3.get ht) rfl) (aK ((hT H3 e3).mono fun v H4 k=>?_))))))))
  clear hT ht; obtain ⟨rfl,e4⟩:=k
  refine cH s1 hs rfl (E_p aB (cH (aV s1 hs) s2 rfl (cH s0 (aV (aV s1 hs) s2) rfl ?_)))
  exact tail _ H4 (SL.mono (aV s0 (aV (aV s1 hs) s2)) rfl) (e3.trans e4) (by show _ = _ ++ _ ++ _ ++ _; simp only [Str.append_assoc]) _ ⟨rfl,e3.trans e4⟩
end Mine.C
end
section
namespace Mine.C
open PySem (Expr Stmt Str)
section
variable {H:Heap} {n l t fs ps hid:Nat} {num size len:Int} {form mod lab:Str} {base:V} {nm:Int→Option Str}
theorem dCa {Q:V→Heap→Prop} (h:∀ b H1,Ext H H1→H1[b]? = some (.dict bEs)→W (aJ (aC tbl n) (.cons (.ite (.val (.cmp .In (.attr (.loc 1) 1) (.loc 2))) (.cons (.ret (.sub (.loc 2) (.attr (.loc 1) 1))) .nil) .nil)
 (.cons (.ite (.val (.cmp .In (.attr (.loc 1) 0) (.loc 0))) (.cons (.ret (.sub (.loc 0) (.attr (.loc 1) 0))) .nil) .nil)
 (.cons (.ret (.ite (.val (.cmp .Eq (.attr (.loc 1) 8) (.const (.str ("N"))))) (.const (.str ("N.R"))) (.call .lstructure (.cons (.loc 0) (.cons (.loc 1) .nil))))) .nil))) [some (.ref l),some (.ref t),some (.ref b),none,none,none,none] H1) (Out Q)):W (aC tbl (n + 1) .ltext [.ref l,.ref t] H) Q:=by
 refine bK (env:=[some (.ref l),some (.ref t),none,none,none,none,none]) rfl ?_
 exact bC (iU (aD aB (aD aB (aD aB (aD aB (aD aB (aK (lE (by decide) fun b H1 x1 g1 _=>h b H1 x1 g1))))))))
theorem pAa {s:Str} (ht:H[t]? = some (tyF num form size base len fs ps mod lab hid)) (hf:look form bEs = some (.str s)):W (aC tbl (n + 1) .ltext [.ref l,.ref t] H) (Ret H (.str s)) :=
 dCa fun b H1 x1 g1=>cJ (aO (aR (aF (aA rfl) (x1.get ht) rfl) (aA rfl) (by show inS form H1[b]? = _; rw [g1]; show some (look form bEs).isSome = _; rw [hf]; rfl))) (cC (gGa (aA rfl) (aF (aA rfl) (x1.get ht) rfl) g1 hf) ⟨rfl,x1⟩)
theorem uE {Q:V→Heap→Prop} (ht:H[t]? = some (tyF num form size base len fs ps mod lab hid)) (hf:look form bEs = none) (hn:8 ≤ num) (hL:LN H l nm) (hs:∀ s,nm num = some s→∀ H',Ext H H'→Q (.str s) H')
  (he:nm num = none→∀ b H',Ext H H'→W (aH (aC tbl n) [some (.ref l),some (.ref t),some (.ref b),none,none,none,none] (.ite (.val (.cmp .Eq (.attr (.loc 1) 8) (.const (.str ("N"))))) (.const (.str ("N.R"))) (.call .lstructure (.cons (.loc 0) (.cons (.loc 1) .nil)))) H') Q):W (aC tbl (n + 1) .ltext [.ref l,.ref t] H) Q:=by
 refine dCa fun b H1 x1 g1=>?_
 have t1:=x1.get ht
 refine bH (aO (aR (aF (aA rfl) t1 rfl) (aA rfl) (by show inS form H1[b]? = _; rw [g1]; show some (look form bEs).isSome = _; rw [hf]; rfl))) (bF ?_)
 have no:nm num = none→isIn (.int num) (.ref l) H1 = some false→W (aJ (aC tbl n) (.cons (.ite (.val (.cmp .In (.attr (.loc 1) 0) (.loc 0))) (.cons (.ret (.sub (.loc 0) (.attr (.loc 1) 0))) .nil) .nil) (.cons (.ret (.ite (.val (.cmp .Eq (.attr (.loc 1) 8) (.const (.str ("N"))))) (.const (.str ("N.R"))) (.call .lstructure (.cons (.loc 0) (.cons (.loc 1) .nil))))) .nil)) [some (.ref l),some (.ref t),some (.ref b),none,none,none,none] H1) (Out Q) :=
  fun hq hi=>bH (aO (aR (aF (aA rfl) t1 rfl) (aA rfl) hi)) (bF (cM (he hq b H1 x1)))
 cases hL with
 | nil g h=>exact no (h num hn) (by show inI num H1[l]? = _; rw [x1.get g]; rfl)
 | @nums es g h =>
  have hi:isIn (.int num) (.ref l) H1 = some (look num es).isSome:=by show inI num H1[l]? = _; rw [x1.get g]; rfl
  rw [h num hn] at hi
  cases hq:nm num with
  | none=>rw [hq] at hi; exact no hq hi
  | some s =>
   rw [hq] at hi
   exact cJ (aO (aR (aF (aA rfl) t1 rfl) (aA rfl) hi)) (cC (nQa (aA rfl) (aF (aA rfl) t1 rfl) (x1.get g) (by rw [h num hn,hq]; rfl)) (hs s hq H1 x1))
end
theorem nF:look ("array":Str) bEs = none∧look ("pointer":Str) bEs = none∧look ("record":Str) bEs = none:=⟨by kernel_rfl,by kernel_rfl,by kernel_rfl⟩
theorem pSa:∀ d:Nat,d ≤ 7→Nat.ble (Bd d) 1000000 = true:=by decide +kernel
theorem gD.up {nm:Int→Option Str} {H0:Heap} {d a:Nat} {s:Str} (h:gD nm H0 d a s):gD nm H0 (d + 1) a s :=
 ⟨fun k H l e L=>by have:=h.law (k + 3) H l e L; rwa [show k + 3 + 3 * d + 3 = k + 3 * (d + 1) + 3 by exact tE [_,_] (.a (.a (.a .x (.n 3)) (.m 3 .y)) (.n 3)) (.a (.a .x (.m 3 (.a .y (.n 1)))) (.n 3)) rfl] at this,
  fun k H p s0 sd e P q=>by have:=h.prg (k + 3) H p s0 sd e P q; rwa [show k + 3 + 3 * d + 3 = k + 3 * (d + 1) + 3 by exact tE [_,_] (.a (.a (.a .x (.n 3)) (.m 3 .y)) (.n 3)) (.a (.a .x (.m 3 (.a .y (.n 1)))) (.n 3)) rfl] at this,
  Nat.le_trans h.len (by show _ ≤ 4 * Bd d + 100; exact lin [_] .x (.a (.m 4 .x) (.n 100)) [] rfl)⟩
theorem jYa {h:Str} {m k:Nat} {ys:List Str} (hh:SL m h) (hl:ys.length ≤ 3) (hy:∀ y ∈ ys,SL k y):SL (m + 3 * k + 11) (nM h ys):=by
 have s4:SL 4 (" END":Str):=aN (by kernel_rfl)
 cases ys with
 | nil=>exact Nat.le_trans (aV hh s4) (by exact lin [_,_] (.a .x (.n 4)) (.a (.a .x (.m 3 .y)) (.n 11)) [] rfl)
 | cons y r =>
  have hj:=Nat.le_trans (kW (sep:="; ") (aN (m:=2) (by kernel_rfl)) hy) (Nat.mul_le_mul_right (k + 2) hl)
  exact Nat.le_trans (aV (aV (aV hh (aN (m:=1) (by kernel_rfl))) hj) s4) (by exact lin [_,_] (.a (.a (.a .x (.n 1)) (.m 3 (.a .y (.n 2)))) (.n 4)) (.a (.a .x (.m 3 .y)) (.n 11)) [] rfl)
theorem yS {zs:List Item} {tx:Nat→Str} {B:Nat} (hl:zs.length ≤ 3) (hz:∀ z ∈ zs,SL 3 z.name∧SL B (tx z.t)):((grp zs).map (bG tx)).length ≤ 3∧∀ y ∈ (grp zs).map (bG tx),SL (B + 21) y:=by
 obtain ⟨h1,h2⟩:=pK (fun x=>SL 3 x.name∧SL B (tx x.t)) hl hz
 refine ⟨by rw [List.length_map]; exact h1,fun y hy=>?_⟩
 obtain ⟨r,hr,rfl⟩:=List.mem_map.mp hy
 have h:=h2 r hr
 have hn:=h.names fun x hx=>hx.1
 obtain ⟨w,ws,_,_,c,_,e,_⟩:=h
 have h0:SL 4 (hd r.var):=by cases r.var <;> exact aN (by kernel_rfl)
 have ht:SL B (tx r.t):=by rw [c]; exact (e w (.head _)).2
 exact Nat.le_trans (aV (aV (aV h0 hn) (aN (m:=2) (by kernel_rfl))) ht) (by exact lin [_] (.a (.a (.a (.n 4) (.n 15)) (.n 2)) .x) (.a .x (.n 21)) [] rfl)
theorem iIa {nm:Int→Option Str} {H0:Heap} {d:Nat} (hd:d ≤ 6) (ih:∀ b,GT H0 d b→∃ s,gD nm H0 d b s) {a:Nat} (h:GS H0 (GT H0 d) a):∃ s,nLa nm H0 d a s:=by
 have hB:Bd d ≤ 1000000:=Nat.le_of_ble_eq_true (pSa d (by exact lin [_] .x (.n 7) [(.x,.n 6)] rfl hd))
 have up:∀ {b s},gD nm H0 d b s→SL 1000000 s:=fun h=>Nat.le_trans h.len hB
 have f1:∀ k:Nat,k + 1 + 3 * d + 3 = k + 3 * d + 4:=fun k=>by exact tE [_,_] (.a (.a (.a .x (.n 1)) (.m 3 .y)) (.n 3)) (.a (.a .x (.m 3 .y)) (.n 4)) rfl
 cases h with
 | @arr num len b fs ps hid lab e hn hl hb =>
  obtain ⟨s,hs⟩:=ih b hb
  refine ⟨_,fun k H l x L=>sJa (x.get e) hl (up hs) (by have:=hs.law (k + 1) H l x L; rwa [f1] at this),fun k H p s0 sd x P q=>wMa (x.get e) hl (up hs) (by have:=hs.prg (k + 1) H p s0 sd x P q; rwa [f1] at this),?_⟩
  exact Nat.le_trans (aV (aV (aV (aN (m:=6) (by kernel_rfl)) (pI (by exact rD hl (by decide)))) (aN (m:=4) (by kernel_rfl))) hs.len) (by show _ ≤ 4 * Bd d + 100; exact lin [_] (.a (.n 14) .x) (.a (.m 4 .x) (.n 100)) [] rfl)
 | @ptr num b fs ps hid lab e hn hb =>
  obtain ⟨s,hs⟩:=ih b hb
  refine ⟨_,fun k H l x L=>uZa (x.get e) (up hs) (by have:=hs.law (k + 1) H l x L; rwa [f1] at this),fun k H p s0 sd x P q=>oQa (x.get e) (up hs) (by have:=hs.prg (k + 1) H p s0 sd x P q; rwa [f1] at this),?_⟩
  exact Nat.le_trans (aV (aN (m:=11) (by kernel_rfl)) hs.len) (by show _ ≤ 4 * Bd d + 100; exact lin [_] (.a (.n 11) .x) (.a (.m 4 .x) (.n 100)) [] rfl)
 | @rcd num base fs ps hid lab fl e hn hbase hf hl hx =>
  have hbt:∃ bt:Option Str,(base = .none∧bt = none) ∨ ∃ b s,base = .ref b∧bt = some s∧gD nm H0 d b s:=by
   rcases hbase with h | ⟨b,h1,h2⟩
   ·exact ⟨none,.inl ⟨h,rfl⟩⟩
   ·obtain ⟨s,hs⟩:=ih b h2
    exact ⟨some s,.inr ⟨b,s,h1,rfl,hs⟩⟩
  obtain ⟨bt,hbt⟩:=hbt
  let tx:Nat→Str:=fun t=>Classical.epsilon fun s=>gD nm H0 d t s
  let nu:Nat→Int:=fun t=>Classical.epsilon fun m=>dB H0 t m
  have htx:∀ f ∈ fl,gD nm H0 d f.t (tx f.t):=fun f hm=>Classical.epsilon_spec (ih f.t (hx f hm).2.2)
  have hnu:∀ f ∈ fl,dB H0 f.t (nu f.t):=fun f hm=>Classical.epsilon_spec (lY (hx f hm).2.2)
  refine ⟨nM (lA bt) ((grp (shown fl nu)).map (bG tx)),fun k H l x L=>?_,fun k H p s0 sd x P q=>?_,?_⟩
  ·refine jUa (x.get e) ?_ (x.get hf) hl fun f hm=>⟨x.get (hx f hm).1,(hx f hm).2.1,(hnu f hm).ext x,up (htx f hm),fun H' e'=>(htx f hm).law k H' l (x.trans e') (L.ext e')⟩
   rcases hbt with h | ⟨b,s,h1,h2,hs⟩
   ·exact .inl h
   ·exact .inr ⟨b,s,h1,h2,up hs,fun H' e'=>by have:=hs.law (k + 1) H' l (x.trans e') (L.ext e'); rwa [f1] at this⟩
  ·obtain ⟨al,sc,nr,ad,hp,_⟩:=P.ex
   refine lNa hp (x.get e) ?_ (x.get hf) hl fun f hm=>⟨x.get (hx f hm).1,(hx f hm).2.1,(hnu f hm).ext x,up (htx f hm),fun H' e'=>(htx f hm).prg k H' p s0 sd (x.trans e') (P.ext e') q⟩
   rcases hbt with h | ⟨b,s,h1,h2,hs⟩
   ·exact .inl h
   ·exact .inr ⟨b,s,h1,h2,up hs,fun H' e'=>hs.prg k H' p s0 sd (x.trans e') (P.ext e') q⟩
  ·have hH:SL (Bd d + 9) (lA bt):=by
    rcases hbt with ⟨_,rfl⟩ | ⟨b,s,_,rfl,hs⟩
    ·exact Nat.le_trans (aN (m:=6) (by kernel_rfl):SL 6 ("RECORD":Str)) (by exact lin [_] (.n 6) (.a .x (.n 9)) [] rfl)
    ·exact Nat.le_trans (aV (aV (aV (aN (m:=6) (by kernel_rfl)) (aN (m:=2) (by kernel_rfl))) hs.len) (aN (m:=1) (by kernel_rfl))) (by exact lin [_] (.a (.a (.a (.n 6) (.n 2)) .x) (.n 1)) (.a .x (.n 9)) [] rfl)
   obtain ⟨q1,q2⟩:=yS (zs:=shown fl nu) (tx:=tx) (B:=Bd d) (by unfold shown; rw [List.length_map]; exact Nat.le_trans (List.length_filter_le _ _) hl) fun z hz=>by
    unfold shown at hz
    obtain ⟨f,hmf,rfl⟩:=List.mem_map.mp hz
    have hm:=(List.mem_filter.mp hmf).1
    exact ⟨(hx f hm).2.1,(htx f hm).len⟩
   exact Nat.le_trans (jYa hH q1 q2) (by show _ ≤ 4 * Bd d + 100; exact lin [_] (.a (.a (.a .x (.n 9)) (.m 3 (.a .x (.n 21)))) (.n 11)) (.a (.m 4 .x) (.n 100)) [] rfl)
theorem uI {nm:Int→Option Str} {H0:Heap} (hnm:∀ k s,nm k = some s→SL 4 s):∀ d a,d ≤ 7→GT H0 d a→∃ s,gD nm H0 d a s
 | 0,a,_,h=>by
  cases h with
  | @basic num size len form s base fs ps hid e _ hf hl =>
   exact ⟨s,fun k H l x L=>pAa (x.get e) hf,fun k H p s0 sd x P q=>sU ((rKa (x.get e) hf).mono fun v H' k=>.inl ⟨s,k.1,⟨rfl,k.2⟩⟩) (let ⟨_,_,_,_,hp,_,_,_⟩:=P.ex; ⟨_,hp⟩),hl.mono rfl⟩
  | @other num fs ps hid e hn =>
   cases hq:nm num with
   | some s =>
    refine ⟨s,fun k H l x L=>uE (x.get e) nF.2.2 hn L (fun s' h H' e'=>by rw [hq] at h; cases h; exact ⟨rfl,e'⟩) (fun h=>by rw [hq] at h; cases h),fun k H p s0 sd x P q=>sU (uL P (x.get e) nF.2.2 (fun s' h H' e'=>.inl ⟨s',rfl,by rw [q num hn,hq] at h; cases h; exact ⟨rfl,e'⟩⟩) fun h=>by rw [q num hn,hq] at h; cases h) (let ⟨_,_,_,_,hp,_,_,_⟩:=P.ex; ⟨_,hp⟩),(hnm _ _ hq).mono rfl⟩
   | none =>
    refine ⟨"N.R",fun k H l x L=>uE (x.get e) nF.2.2 hn L (fun s' h=>by rw [hq] at h; cases h) fun _ b H' e'=>mL (aO (aR (aF (aA rfl) (e'.get (x.get e)) rfl) aB (by show some (decide _) = _; rw [decide_eq_true rfl]))) (E_p aB ⟨rfl,e'⟩),fun k H p s0 sd x P q=>?_,aN (by kernel_rfl)⟩
    obtain ⟨al,sc,nr,ad,h1,h2,h3,h4⟩:=P.ex
    refine sU (uL P (x.get e) nF.2.2 (fun s' h=>by rw [q num hn,hq] at h; cases h) fun _ env H' e' g0 g1=>(qKa (e'.get h1) (e'.get h2) h3 (e'.get (x.get e)) g0 g1).mono fun y H'' k=>?_) ⟨_,h1⟩
    obtain ⟨fl,ey⟩:=y
    cases fl with
    | next=>exact absurd k.1 (fun q=>nomatch q)
    | cont=>exact k
    | ret v=>exact .inl ⟨"N.R",k.1,rfl,e'.trans k.2⟩
 | d + 1,a,hd,h=>by
  rcases h with h | h
  ·obtain ⟨s,hs⟩:=uI hnm d a (by exact lin [_] .x (.n 7) [(.a .x (.n 1),.n 7)] rfl hd) h
   exact ⟨s,hs.up⟩
  ·obtain ⟨s,hs⟩:=iIa (nm:=nm) (by exact lin [_] .x (.n 6) [(.a .x (.n 1),.n 7)] rfl hd) (fun b hb=>uI hnm d b (by exact lin [_] .x (.n 7) [(.a .x (.n 1),.n 7)] rfl hd) hb) h
   have f2:∀ k:Nat,k + 3 * (d + 1) + 3 = (k + 3 * d + 5) + 1:=fun k=>by exact tE [_,_] (.a (.a .x (.m 3 (.a .y (.n 1)))) (.n 3)) (.a (.a (.a .x (.m 3 .y)) (.n 5)) (.n 1)) rfl
   have parts:∃ num form size base len fs ps lab hid,H0[a]? = some (tyF num form size base len fs ps "M" lab hid)∧look form bEs = none∧8 ≤ num:=by
    cases h with
    | arr e hn _ _=>exact ⟨_,_,_,_,_,_,_,_,_,e,nF.1,hn⟩
    | ptr e hn _=>exact ⟨_,_,_,_,_,_,_,_,_,e,nF.2.1,hn⟩
    | rcd e hn _ _ _ _=>exact ⟨_,_,_,_,_,_,_,_,_,e,nF.2.2,hn⟩
   refine cps fun G_ g_=>?_
   obtain ⟨num,form,size,base,len,fs,ps,lab,hid,e,hf,hn⟩:=parts
   refine g_ ?_
   clear g_
   cases hq:nm num with
   | some s' =>
    refine ⟨s',fun k H l x L=>by rw [f2]; exact uE (x.get e) hf hn L (fun s' h H' e'=>by rw [hq] at h; cases h; exact ⟨rfl,e'⟩) (fun h=>by rw [hq] at h; cases h),fun k H p s0 sd x P q=>by rw [f2]; exact sU (uL P (x.get e) hf (fun s' h H' e'=>.inl ⟨s',rfl,by rw [q num hn,hq] at h; cases h; exact ⟨rfl,e'⟩⟩) fun h=>by rw [q num hn,hq] at h; cases h) (let ⟨_,_,_,_,hp,_,_,_⟩:=P.ex; ⟨_,hp⟩),Nat.le_trans (hnm _ _ hq) (by show _ ≤ 4 * Bd d + 100; exact lin [_] (.n 4) (.a (.m 4 .x) (.n 100)) [] rfl)⟩
   | none =>
    refine ⟨s,fun k H l x L=>?_,fun k H p s0 sd x P q=>?_,hs.len⟩
    ·rw [f2]
     refine uE (x.get e) hf hn L (fun s' h=>by rw [hq] at h; cases h) fun _ b H' e'=>mZ (aO (aR (aF (aA rfl) (e'.get (x.get e)) rfl) aB (by show some (decide _) = _; rw [decide_eq_false (by decide +kernel)]))) (bO (aD (aA rfl) (aD (aA rfl) (aK ((hs.law k H' l (x.trans e') (L.ext e')).mono fun v H2 k=>⟨k.1,e'.trans k.2⟩)))))
    ·rw [f2]
     obtain ⟨al,sc,nr,ad,h1,h2,h3,h4⟩:=P.ex
     refine sU (uL P (x.get e) hf (fun s' h=>by rw [q num hn,hq] at h; cases h) fun _ env H' e' g0 g1=>(rXa (e'.get h1) (e'.get (x.get e)) g0 g1).mono fun y H'' k'=>?_) ⟨_,h1⟩
     have fin:Ext H' H''→W (aC tbl (k + 3 * d + 5) .structure_text [.ref p,.ref a] H'') (Ret H (.str s)):=fun e2=>(hs.prg k H'' p s0 sd (x.trans (e'.trans e2)) (P.ext (e'.trans e2)) q).mono fun v H2 k=>⟨k.1,(e'.trans e2).trans k.2⟩
     obtain ⟨fl,ey⟩:=y
     cases fl with
     | next=>exact .inr ⟨rfl,fin k'.2⟩
     | cont=>exact k'
     | ret v=>exact .inr ⟨k'.1,fin k'.2⟩
end Mine.C
end
section
namespace Mine.C
open PySem (Expr Stmt Str)
noncomputable def oJ (ys:List Str) (bt:Option Str):Str:=match ys,bt with
 | [],none=>""
 | ys,none=>" (" ++ Str.join "; " ys ++ ")"
 | ys,some s=>" (" ++ Str.join "; " ys ++ ")" ++ ": " ++ s
inductive qO (g:Nat→Heap→Option (V × Heap)) (H:Heap) (b:Nat) (bt:Option Str):Prop where
 | mk (num form size base len fs ps mod lab hid):H[b]? = some (tyF num form size base len fs ps mod lab hid)→(((form = "none"∧bt = none) ∨ (form ≠ "none"∧∃ s,bt = some s∧SL 1000000 s∧∀ H',Ext H H'→W (g b H') (Ret H' (.str s)))))→qO g H b bt
noncomputable def mCa:ISs:=(.cons (.setl 6 (.bin .Add (.bin .Add (.const (.str (" ("))) (.bmeth .join (.const (.str ("; "))) (.cons (.loc 2) .nil))) (.const (.str (")")))))
 (.cons (.ite (.val (.cmp .NotEq (.attr (.attr (.loc 1) 3) 1) (.const (.str ("none"))))) (.cons (.setl 6 (.bin .Add (.bin .Add (.loc 6) (.const (.str (": ")))) (.call .type_text (.cons (.loc 0) (.cons (.attr (.loc 1) 3) .nil)))))
 .nil) .nil)
 (.cons (.ret (.loc 6))
 .nil)))
noncomputable def sgE (p t pf:Nat) (x3 x4 x5:Option V):Env:=[some (.ref p),some (.ref t),some (.ref pf),x3,x4,x5,none,none,none,none,none]
noncomputable def sg0 (p t:Nat):Env:=[some (.ref p),some (.ref t),none,none,none,none,none,none,none,none,none]
inductive SgI (Hs Hg:Heap) (pf:Nat) (tx:Nat→Str) (all:List Row) (p t:Nat) (l:List (Nat × Row)) (H:Heap):Env→Prop where
 | mk (done:List Str) (x3 x4 x5:Option V):RZ Hs Hg pf tx all l done H→SgI Hs Hg pf tx all p t l H (sgE p t pf x3 x4 x5)
theorem kHa {H:Heap} {n p t b al sc nr fs ps hid:Nat} {num size len:Int} {form mod lab:Str} {bt:Option Str} {xs:List Item} {tx:Nat→Str} (hp:H[p]? = some (nmF al sc nr)) (ht:H[t]? = some (tyF num form size (.ref b) len fs ps mod lab hid)) (hb:qO (fun b H=>aC tbl (n + 2) .type_text [.ref p,.ref b] H) H b bt)
  (hf:H[ps]? = some (.list (xs.map fun x=>.ref x.o))) (hl:xs.length ≤ 3) (hx:∀ x ∈ xs,PX (aC tbl (n + 2)) p tx H x) :
  W (aC tbl (n + 3) .signature_text [.ref p,.ref t] H) (Ret H (.str (oJ ((grp xs).map (bG tx)) bt))):=by
 refine cps fun G_ g_=>?_
 obtain ⟨bn,bf,bs,bb,bl,bfs,bps,bm,bla,bh,hbt,hbk⟩:=hb
 obtain ⟨hG1,hG2⟩:=pK (fun x=>PX (aC tbl (n + 2)) p tx H x) hl hx
 refine g_ ?_
 clear g_
 have hrow:∀ r ∈ grp xs,SL 15 (Str.join ", " r.names)∧SL 1000000 (tx r.t):=fun r hr=>by
  refine ⟨(hG2 r hr).names fun x hx=>hx.n,?_⟩
  obtain ⟨y,ys,_,_,c,_,e,_⟩:=hG2 r hr
  rw [c]; exact (e y (.head _)).s
 have hroom:=eRa hG1 hrow
 have hml:((grp xs).map (bG tx)).length ≤ 3:=by rw [List.length_map]; exact hG1
 have hj:SL 3000069 (Str.join "; " ((grp xs).map (bG tx))):=Nat.le_trans (kW (aN (m:=2) (by kernel_rfl)) hroom) (Nat.mul_le_mul_right 1000023 hml)
 refine bK (env:=sg0 p t) rfl ?_
 have e0:PE (aC tbl (n + 2)) (sg0 p t) H (.attr (.loc 1) 7) (.ref ps):=aF (aA rfl) ht rfl
 have hempty:xs = []∧bt = none→(grp xs).map (bG tx) = []:=fun h=>by rw [h.1]; rfl
 have rest:¬ (xs = []∧bt = none)→W (aJ (aC tbl (n + 2)) (.cons (.setl 2 (.list .nil)) (.cons (.for [3] false (.of (.call .grouped (.cons (.attr (.loc 1) 7) .nil))) (.cons (.setl 4 (.bmeth .join (.const (.str (", "))) (.cons (.comp [7] false (.of (.loc 3)) .nil (.attr (.loc 7) 12)) .nil)))
   (.cons (.setl 5 (.ite (.val (.call .is_variable (.cons (.sub (.loc 3) (.const (.int (0)))) .nil))) (.const (.str ("VAR "))) (.const (.str ("")))))
   (.cons (.expr (.bmeth .append (.loc 2) (.cons (.bin .Add (.bin .Add (.bin .Add (.loc 5) (.loc 4)) (.const (.str (": ")))) (.call .type_text (.cons (.loc 0) (.cons (.attr (.sub (.loc 3) (.const (.int (0)))) 14) .nil)))) .nil))) .nil)))) mCa)) (sg0 p t) H) (Out (Ret H (.str (oJ ((grp xs).map (bG tx)) bt)))):=fun hno=>by
  refine bC (bU (aK (bJ (aG rfl) fun pf H2 e2 g2 m2=>?_)))
  refine cY (gF (bO (aD (aF (aA rfl) (e2.get ht) rfl) (aK ((hUa (e2.get hf) hl fun x h=>(hx x h).o.ext e2).mono fun v Hg k=>?_)))))
  refine cps fun G_ g_=>?_
  clear hempty hx hl hp; obtain ⟨f,as,rfl,kf,kr,ke,kn,ka⟩:=k
  obtain ⟨its,rfl,hz⟩:=kr.zip
  refine g_ ?_
  clear g_
  rw [List.map_map] at kf
  refine ⟨⟨_,.list f _⟩,by show itO f Hg[f]? = _; rw [kf]; rfl,?_⟩
  refine pX (V.ref ∘ fun q:Nat × Row=>q.1) (SgI H Hg pf tx (grp xs) p t) ?_ ?_ ?_ its _ _ (.mk [] none none none (.first hz (e2.trans ke) kr (fun a ha=>(bV g2 (ka a ha)).symm) (ke.get g2)))
  ·rintro l env H' ⟨_,_,_,_,c⟩
   exact cO (c.but _ _ (bV g2 kn).symm kf)
  ·rintro ⟨a,r⟩ rs env H' ⟨done,x3,x4,x5,c⟩
   refine cps fun G_ g_=>?_
   obtain ⟨y,ys,o1,o2,o3,o4,o5,o6⟩:=hG2 r (c.ok r (.head _))
   have ha:H'[a]? = some (.list ((y :: ys).map fun z=>.ref z.o)):=by
    rw [c.but _ _ (c.ne a (.head _)) c.rows.1,o1,List.map_map]; rfl
   obtain ⟨⟨ky,ex,rx,vx,ye,yv⟩,_⟩:=(o5 y (.head _)).o.ext c.ext
   refine g_ ?_
   clear g_
   refine dM (env1:=sgE p t pf (some (.ref a)) x4 x5) rfl ?_
   refine bC (iAa (zs:=y :: ys) (aA rfl) ha (by exact lin [_] .x (.n 3) [(.a .x (.n 0),.n 3)] rfl o6) (fun z hz=>?_) fun H3 e3=>?_)
   ·have q1:=o5 z hz
    obtain ⟨⟨kz,_,_,_,ze,_⟩,_⟩:=q1.o.ext c.ext
    exact ⟨q1.o.ext c.ext,q1.n,aF (aA rfl) ze rfl⟩
   ·have c3:RZ H Hg pf tx (grp xs) ((a,r) :: rs) done H3:=⟨c.ext.trans e3,c.rows,c.but.trans e3.but,c.ne,e3.get c.parts,c.cat,c.ok⟩
    have oy:=(o5 y (.head _)).o.ext c3.ext
    have hfirst:∀ {z4 z5},PE (aC tbl (n + 2)) (sgE p t pf (some (.ref a)) z4 z5) H3 (.sub (.loc 3) (.const (.int 0))) (.ref y.o):=cQ (aA rfl) aB (e3.get ha) iFa
    have htest:∀ {z4 z5},PT (aC tbl (n + 2)) (sgE p t pf (some (.ref a)) z4 z5) H3 (.val (.call .is_variable (.cons (.sub (.loc 3) (.const (.int (0)))) .nil))) y.var:=aO (aPa hfirst (wV oy (n + 1)))
    refine gA (v:=.str (hd r.var)) ?_ ?_
    ·rw [o4]
     clear oy yv ha o6 o4 o1 ka kr kf hz kn ke g2 e2 hG2; cases hv:y.var with
     | true=>exact kZ (hv ▸ htest) aB
     | false=>exact gK (hv ▸ htest) aB
    ·have hs:=hrow r (c.ok r (.head _))
     have h0:SL 4 (hd r.var):=by cases r.var <;> exact aN (by kernel_rfl)
     refine row_end c3 (m2) hG1 (aA rfl) (bR (aA rfl) (aA (by rw [o2]; rfl)) h0 hs.1 rfl) (aA rfl) (by rw [o3]; exact aF hfirst (e3.get ye) rfl) hs.1 hs.2 (by rw [o3]; exact (o5 y (.head _)).w) fun H4 c4=>?_
     exact .mk _ _ _ _ c4
  ·rintro env H' ⟨done,x3,x4,x5,c⟩
   have hd:done = (grp xs).map (bG tx):=(List.append_nil _).symm.trans c.cat
   rw [← hd] at hroom hml hj ⊢
   have s1:SL 2 (" (":Str):=aN (by kernel_rfl)
   have s2:SL 1 (")":Str):=aN (by kernel_rfl)
   have hw:W (dI .join (.str "; ") [.ref pf] H') fun v H2=>v = .str (Str.join "; " done)∧H2 = H':=mK c.parts (tD (aN (by kernel_rfl)) (by exact lin [_] .x (.n 6) [(.x,.n 3)] rfl hml) fun y hy=>(hroom y hy).mono rfl) ⟨rfl,rfl⟩
   clear hroom hml ka kr kf hz kn ke m2 g2 e2 hrow hG2 hG1; obtain ⟨v,H2,e,rfl,rfl⟩:=hw.run
   refine aZ (gA (bR (bR aB (sV aB rfl (vs:=[.ref pf]) rfl e) s1 hj rfl) aB (aV s1 hj) s2 rfl) ?_)
   have b1:=c.ext.get hbt
   have t1:=c.ext.get ht
   clear e hw; rcases hbk with ⟨rfl,rfl⟩ | ⟨hne,s,rfl,hs,hT⟩
   ·refine bH (aO (aR (aF (aF (aA rfl) t1 rfl) b1 rfl) aB (by show some (!decide _) = _; rw [decide_eq_true rfl]; rfl))) (bF (cC (aA rfl) ⟨?_,c.ext⟩))
    have:(grp xs) ≠ []:=by
     cases xs with
     | nil=>exact absurd ⟨rfl,rfl⟩ hno
     | cons x xs=>exact aHa
    clear hno; cases done with
    | nil=>exact absurd (List.map_eq_nil_iff.mp hd.symm) this
    | cons _ _=>rfl
   ·refine cJ (aO (aR (aF (aF (aA rfl) t1 rfl) b1 rfl) aB (by show some (!decide _) = _; rw [decide_eq_false hne]; rfl))) ?_
    have s3:SL 2 (": ":Str):=aN (by kernel_rfl)
    refine bC (bW (E_p (bR (aA rfl) aB (aV (aV s1 hj) s2) s3 rfl) (bO (aD (aA rfl) (aD (aF (aA rfl) t1 rfl) (aK ((hT _ c.ext).mono fun v H3 k=>?_)))))))
    clear hno t1 b1 hd; obtain ⟨rfl,e3⟩:=k
    refine cH (aV (aV (aV s1 hj) s2) s3) hs rfl (aX (aZ (cC (aA rfl) ⟨?_,c.ext.trans e3⟩)))
    show V.str _ = V.str (oJ done (some s))
    clear e3 s3 c s2 s1 hj; cases done <;> rfl
 have hlen0:∀ b,decide ((xs.length:Int) = 0) = b→PT (aC tbl (n + 2)) (sg0 p t) H (.val (.cmp .Eq (.blt .len (.cons (.attr (.loc 1) 7) .nil)) (.const (.int (0))))) b:=fun b hb=>by
  refine aO (aR (gM e0 hf) aB ?_)
  show some (decide (((xs.map fun x=>V.ref x.o).length:Int) = 0)) = _
  rw [List.length_map,hb]
 clear hempty e0 hj hml hroom hrow hG2 hG1 hx hl hf hp; cases xs with
 | cons x xs=>exact bH (jH (hlen0 false (decide_eq_false (by simp only [List.length_cons]; exact znz)))) (bF (rest fun q=>nomatch q.1))
 | nil =>
  rcases hbk with ⟨rfl,rfl⟩ | ⟨hne,s,rfl,hs,hT⟩
  ·exact cJ (gO (hlen0 true rfl) (aO (aR (aF (aF (aA rfl) ht rfl) hbt rfl) aB (by show some (decide _) = _; rw [decide_eq_true rfl])))) (cC aB ⟨rfl,Ext.refl _⟩)
  ·exact bH (gO (hlen0 true rfl) (aO (aR (aF (aF (aA rfl) ht rfl) hbt rfl) aB (by show some (decide _) = _; rw [decide_eq_false hne])))) (bF (rest fun q=>nomatch q.2))
end Mine.C
end
section
namespace Mine.C
open PySem (Expr Stmt Str)
theorem vIa {cf:aU} {env:Env} {H:Heap} {e:IE} {a:Nat} {vs:List V} {Q:Bool→Heap→Prop} (h:PE cf env H e (.ref a)) (g:H[a]? = some (.list vs)) (q:∀ H1,Ext H H1→Q vs.isEmpty H1):W (bZ cf env (.val (.cmp .Eq e (.list .nil))) H) Q:=by
 refine fK (fW (E_p h (bU (aK (bJ (by decide) fun b H1 x1 g1 m1=>?_)))))
 refine ⟨vs.isEmpty,?_,iC (q H1 x1)⟩
 show ((cN H1[a]?).bind fun vs=>(cN H1[b]?).bind fun us=>aP us.isEmpty (some vs.isEmpty)) = _
 rw [x1.get g,g1]; rfl
structure SgX (cf:aU) (l:Nat) (tx:Nat→Str) (H:Heap) (x:Item):Prop where
 n:SL 3 x.name
 o:gB H x
 s:SL 1000000 (tx x.t)
 w:∀ H',Ext H H'→W (cf .ltext [.ref l,.ref x.t] H') (Ret H' (.str (tx x.t)))
theorem uOa {H:Heap} {n l t b fs ps hid:Nat} {num size len:Int} {form mod lab:Str} {bt:Option Str} {zs:List Item} {tx:Nat→Str} (ht:H[t]? = some (tyF num form size (.ref b) len fs ps mod lab hid)) (hb:qO (fun b H=>aC tbl (n + 1) .ltext [.ref l,.ref b] H) H b bt)
  (hf:H[ps]? = some (.list (zs.map fun x=>.ref x.o))) (hl:zs.length ≤ 3) (hx:∀ x ∈ zs,SgX (aC tbl n) l tx H x) :
  W (aC tbl (n + 2) .lsignature [.ref l,.ref t] H) (Ret H (.str (oJ ((grp zs).map (bG tx)) bt))):=by
 obtain ⟨bn,bf,bs,bb,bl,bfs,bps,bm,bla,bh,hbt,hbk⟩:=hb
 refine bK (env:=[some (.ref l),some (.ref t),none,none,none,none,none]) rfl ?_
 refine bC (bO (aD (aA rfl) (cF (mD (gF (E_p (aF (aA rfl) ht rfl) ⟨⟨_,.list ps _⟩,by show itO ps H[ps]? = _; rw [hf]; rfl,?_⟩))))))
 refine (fLa (it:=⟨zs.map fun z=>.ref z.o,.list ps (zs.map fun z=>.ref z.o)⟩) (zs:=zs) (keep:=fun _=>true) (fun H1 e=>cO (e.get hf)) fun z hz H1 e=>?_).mono fun us H1 k=>?_
 ·obtain ⟨⟨kind,exp,ro,val,q1,q2⟩,_⟩:=(hx z hz).o.ext e
  refine ⟨[some (.ref l),some (.ref t),none,some (.ref z.o),none,none,none],rfl,rfl,?_,aF (aA rfl) q1 rfl,aF (aA rfl) q1 rfl⟩
  have h1:PT (aC tbl (n + 1)) [some (.ref l),some (.ref t),none,some (.ref z.o),none,none,none] H1 (.val (.cmp .Eq (.attr (.loc 3) 13) (.const (.str "par")))) (decide (kind = "par")):=aO (aR (aF (aA rfl) q1 rfl) aB rfl)
  have h2:PT (aC tbl (n + 1)) [some (.ref l),some (.ref t),none,some (.ref z.o),none,none,none] H1 (.not (.val (.attr (.loc 3) 17))) (!ro):=zW (aO (aF (aA rfl) q1 rfl))
  rw [q2]
  clear q2 q1; cases hk:decide (kind = "par") with
  | false=>exact gK (jH (hk ▸ h1)) aB
  | true=>cases ro with
   | true=>exact gK (gO (hk ▸ h1) h2) aB
   | false=>exact kZ (gO (hk ▸ h1) h2) aB
 refine cps fun G_ g_=>?_
 obtain ⟨xs,rfl,ker,e1,hxs⟩:=k
 refine g_ ?_
 clear g_
 rw [filter_all] at ker
 have hlen:xs.length ≤ 3:=by
  have:=congrArg List.length ker
  rw [List.length_map,List.length_map] at this
  exact lin [_,_] .x (.n 3) [(.x,.y),(.y,.n 3)] rfl (Nat.le_of_eq this) hl
 have hrows:=hXa ker tx
 refine bJ (by rw [List.length_map]; exact lin [_] .x (.n 1000) [(.x,.n 3)] rfl hlen) fun rl H2 x2 g2 m2=>aK ?_
 have e2:=e1.trans x2
 have hit:∀ x ∈ xs,∃ z ∈ zs,z.name = x.name∧z.num = x.num∧z.t = x.t:=fun x h=>by
  obtain ⟨z,hz,hzx⟩:=(hxs x h).2
  obtain ⟨a,_,c,d⟩:=Item.er_eq hzx
  exact ⟨z,hz,a,c,d⟩
 refine (hNa (tx:=tx) g2 hlen (fun x h=>?_) fun x h=>?_).mono fun v H3 k=>?_
 ·obtain ⟨z,hz,a,c,d⟩:=hit x h
  exact ⟨⟨x2.get (hxs x h).1,by rw [← c,← d]; exact (hx z hz).o.2.ext e2⟩,by rw [← a]; exact (hx z hz).n⟩
 ·obtain ⟨z,hz,a,c,d⟩:=hit x h
  rw [← d]
  exact ⟨(hx z hz).s,fun H' e'=>(hx z hz).w H' (e2.trans e')⟩
 clear hit m2 g2 x2 hlen hxs e1 ker; obtain ⟨rfl,e3⟩:=k
 rw [hrows]
 have e3:=e2.trans e3
 obtain ⟨hml,hroom⟩:=yS (zs:=zs) (tx:=tx) (B:=1000000) hl fun z hz=>⟨(hx z hz).n,(hx z hz).s⟩
 have hj:SL 3000069 (Str.join "; " ((grp zs).map (bG tx))):=Nat.le_trans (kW (aN (m:=2) (by kernel_rfl)) hroom) (Nat.mul_le_mul_right 1000023 hml)
 have s1:SL 2 (" (":Str):=aN (by kernel_rfl)
 have s2:SL 1 (")":Str):=aN (by kernel_rfl)
 have s3:SL 2 (": ":Str):=aN (by kernel_rfl)
 have hjj:=aV (aV s1 hj) s2
 have rest:¬ (zs = []∧bt = none)→∀ H',Ext H H'→W (aJ (aC tbl (n + 1)) (.cons (.ret (.bin .Add (.bin .Add (.bin .Add (.const (.str (" ("))) (.loc 2)) (.const (.str (")")))) (.ite (.val (.cmp .Eq (.attr (.attr (.loc 1) 3) 1) (.const (.str ("none"))))) (.const (.str (""))) (.bin .Add (.const (.str (": "))) (.call .ltext (.cons (.loc 0) (.cons (.attr (.loc 1) 3) .nil)))))))
   .nil) [some (.ref l),some (.ref t),some (.str (Str.join "; " ((grp zs).map (bG tx)))),none,none,none,none] H') (Out (Ret H (.str (oJ ((grp zs).map (bG tx)) bt)))):=fun hno H' e=>by
  have b1:=e.get hbt
  have t1:=e.get ht
  refine cM (bW (E_p (bR (bR aB (aA rfl) s1 hj rfl) aB (aV s1 hj) s2 rfl) ?_))
  clear s2 s1 hj hroom hml e2 hrows hx hl; rcases hbk with ⟨rfl,rfl⟩ | ⟨hne,s,rfl,hs,hT⟩
  ·refine mL (aO (aR (aF (aF (aA rfl) t1 rfl) b1 rfl) aB (by show some (decide _) = _; rw [decide_eq_true rfl]))) (E_p aB (cH hjj (aN (m:=0) (by kernel_rfl)) rfl ⟨?_,e⟩))
   rw [wH]
   cases zs with
   | nil=>exact absurd ⟨rfl,rfl⟩ hno
   | cons z zs =>
    clear hno; cases hc:(grp (z :: zs)).map (bG tx) with
    | nil=>exact absurd (List.map_eq_nil_iff.mp hc) aHa
    | cons _ _=>rfl
  ·refine mZ (aO (aR (aF (aF (aA rfl) t1 rfl) b1 rfl) aB (by show some (decide _) = _; rw [decide_eq_false hne]))) (bW (E_p aB (bO (aD (aA rfl) (aD (aF (aA rfl) t1 rfl) (aK ((hT _ e).mono fun v H4 k=>?_)))))))
   clear hno; obtain ⟨rfl,e4⟩:=k
   refine cH s3 hs rfl (cH hjj (aV s3 hs) rfl ⟨?_,e.trans e4⟩)
   show V.str _ = V.str _
   rw [← Str.append_assoc]
   clear e4 e hjj s3; cases (grp zs).map (bG tx) <;> rfl
 have e0:PE (aC tbl (n + 1)) [some (.ref l),some (.ref t),some (.str (Str.join "; " ((grp zs).map (bG tx)))),none,none,none,none] H3 (.attr (.loc 1) 7) (.ref ps):=aF (aA rfl) (e3.get ht) rfl
 refine fH (jN (vIa e0 (e3.get hf) fun H4 x4=>?_))
 clear e0 hjj s3 s2 s1 hj hroom hml e2 hrows hx hl hf; cases zs with
 | cons z zs=>exact ⟨fun q=>(nomatch q),fun _=>⟨fun q=>(nomatch q),fun _=>bF (rest (fun q=>nomatch q.1) H4 (e3.trans x4))⟩⟩
 | nil =>
  have b1:=(e3.trans x4).get hbt
  have t1:=(e3.trans x4).get ht
  refine ⟨fun _=>?_,fun q=>(nomatch q)⟩
  clear hbt ht; rcases id hbk with ⟨rfl,rfl⟩ | ⟨hne,s,rfl,hs,hT⟩
  ·exact T_p (b:=true) (aO (aR (aF (aF (aA rfl) t1 rfl) b1 rfl) aB (by show some (decide _) = _; rw [decide_eq_true rfl]))) ⟨fun _=>cC aB ⟨rfl,e3.trans x4⟩,fun q=>(nomatch q)⟩
  ·exact T_p (b:=false) (aO (aR (aF (aF (aA rfl) t1 rfl) b1 rfl) aB (by show some (decide _) = _; rw [decide_eq_false hne]))) ⟨fun q=>(nomatch q),fun _=>bF (rest (fun q=>nomatch q.2) H4 (e3.trans x4))⟩
end Mine.C
end
section
namespace Mine.C
open PySem (Expr Stmt Str)
theorem wI {H:Heap} {p s0 n:Nat} {sd:List (Str × V)} {x:Str} (N:PN H p s0 sd) (hx:look x sd = none):aC tbl (n + 1) .is_taken [.ref p,.str x] H = some (.bool false,H):=by
 obtain ⟨⟨al,sc,nr,ad,n1,n2,n3,n4⟩,n5,n6,n7⟩:=N
 have:W (aC tbl (n + 1) .is_taken [.ref p,.str x] H) fun w H'=>w = .bool false∧H' = H:=by
  refine bK (env:=[some (.ref p),some (.str x),none,none,none,none,none]) rfl ?_
  refine cY (W.of (iJ (aF (aA rfl) n1 rfl) n4) ?_)
  refine iMa (cO n4) (bA (jT rfl (bH (aO (aR (aA rfl) (aA rfl) (by show inS x H[s0]? = _; rw [n5]; show some (look x sd).isSome = _; rw [hx]; rfl))) ?_)))
  exact aX (aZ (aX (bWa (cO n4) (aZ (cC aB ⟨rfl,rfl⟩)))))
 clear n4 n3 n2 n1 n7 n6 n5 hx; obtain ⟨a,H1,e1,rfl,rfl⟩:=this.run
 exact e1
section
variable {H:Heap} {p t n s0 fs ps hid:Nat} {num size len v:Int} {base:V} {mod lab:Str} {sd:List (Str × V)}
theorem const_int (ht:H[t]? = some (tyF num "integer" size base len fs ps mod lab hid)) (hv:0 ≤ v∧v < 2000):aC tbl (n + 3) .typed_constant [.ref p,.ref t,.int v] H = some (.str (toString v:String),H):=by
 have:W (aC tbl (n + 3) .typed_constant [.ref p,.ref t,.int v] H) fun w H'=>w = .str (toString v:String)∧H' = H:=by
  refine bK (env:=[some (.ref p),some (.ref t),some (.int v),none,none,none,none]) rfl ?_
  refine bH (aO (aR (aF (aA rfl) ht rfl) aB (congrArg some (decide_eq_false (by decide +kernel))))) (bF (cM (bO (aD (aA rfl) (aD (aA rfl) (aD (aA rfl) (aK ?_)))))))
  refine bK (env:=[some (.ref p),some (.ref t),some (.int v),none,none,none,none]) rfl ?_
  refine cJ (aO (aR (aF (aA rfl) ht rfl) aB (congrArg some (decide_eq_true rfl)))) (cM (bO (aD (aA rfl) (aK ?_))))
  refine bK (env:=[some (.int v),none,none,none,none]) rfl ?_
  exact cJ (aO (aR (aA rfl) aB (congrArg some (decide_eq_true hv.1)))) (cC (jX (aA rfl) ⟨hv.1,by exact Int.lt_trans hv.2 (by decide)⟩) ⟨rfl,rfl⟩)
 clear hv ht; obtain ⟨a,H1,e1,rfl,rfl⟩:=this.run
 exact e1
theorem xGa (N:PN H p s0 sd) (hx:look ("CHR":Str) sd = none) (ht:H[t]? = some (tyF num "char" size base len fs ps mod lab hid)) (hv:0 ≤ v∧v < 2000):aC tbl (n + 2) .typed_constant [.ref p,.ref t,.int v] H = some (.str ("CHR(" ++ (toString v:String) ++ ")"),H):=by
 obtain ⟨al,sc,nr,ad,n1,_⟩:=id N.ex
 have:W (aC tbl (n + 2) .typed_constant [.ref p,.ref t,.int v] H) fun w H'=>w = .str ("CHR(" ++ (toString v:String) ++ ")")∧H' = H:=by
  refine bK (env:=[some (.ref p),some (.ref t),some (.int v),none,none,none,none]) rfl ?_
  refine cJ (aO (aR (aF (aA rfl) ht rfl) aB (congrArg some (decide_eq_true rfl)))) ?_
  refine fH (fK (fZ (E_p (aA rfl) ⟨k_inst n1,aD aB (aK (W.of (wI N hx) (iC ⟨fun q=>(nomatch q),fun _=>bF ?_⟩)))⟩)))
  have s0:SL 4 ("CHR(":Str):=aN (by kernel_rfl)
  exact cC (bR (bR aB (jX (aA rfl) ⟨hv.1,by exact Int.lt_trans hv.2 (by decide)⟩) s0 (pI hv) rfl) aB (aV s0 (pI hv)) (aN (m:=1) (by kernel_rfl)) rfl) ⟨rfl,rfl⟩
 clear n1 hv ht hx N; obtain ⟨a,H1,e1,rfl,rfl⟩:=this.run
 exact e1
theorem xZ {form:Str} {val w:V} {H':Heap} (ht:H[t]? = some (tyF num form size base len fs ps mod lab hid)) (hf:decide (form = "char") = false) {Q:V→Heap→Prop} (h:W (aC tbl n .constant_text [.ref p,.ref t,val] H) Q):W (aC tbl (n + 1) .typed_constant [.ref p,.ref t,val] H) Q:=by
 refine bK (env:=[some (.ref p),some (.ref t),some val,none,none,none,none]) rfl ?_
 exact bH (aO (aR (aF (aA rfl) ht rfl) aB (congrArg some hf))) (bF (cM (bO (aD (aA rfl) (aD (aA rfl) (aD (aA rfl) (aK h)))))))
theorem pNa (N:PN H p s0 sd) (h1:look ("TRUE":Str) sd = none) (h2:look ("FALSE":Str) sd = none) (ht:H[t]? = some (tyF num "boolean" size base len fs ps mod lab hid)):W (aC tbl (n + 4) .typed_constant [.ref p,.ref t,.int v] H) fun w H'=>w = .str (if v = 1 then "TRUE" else "FALSE")∧H' = H:=by
 obtain ⟨al,sc,nr,ad,n1,_⟩:=id N.ex
 refine xZ (w:=.none) (H':=H) ht (by decide +kernel) ?_
 refine bK (env:=[some (.ref p),some (.ref t),some (.int v),none,none,none,none]) rfl ?_
 have hc:∀ {e b},decide (("boolean":Str) = e) = b→PT (aC tbl (n + 2)) [some (.ref p),some (.ref t),some (.int v),none,none,none,none] H (.val (.cmp .Eq (.attr (.loc 1) 1) (.const (.str e)))) b:=fun h=>aO (aR (aF (aA rfl) ht rfl) aB (congrArg some h))
 refine bH (hc (by decide +kernel)) (bF (bH (hc (by decide +kernel)) (bF (bH (hc (by decide +kernel)) (bF (cJ (hc (by decide +kernel)) (cM (bO (aD (aA rfl) (aD (aA rfl) (aK ?_)))))))))))
 refine bK (env:=[some (.ref p),some (.int v),none,none,none,none]) rfl ?_
 refine fH (yR (fK (fZ (E_p (aA rfl) ⟨k_inst n1,aD aB (aK (W.of (wI N h1) (iC ⟨fun q=>(nomatch q),fun _=>fK (fZ (E_p (aA rfl) ⟨k_inst n1,aD aB (aK (W.of (wI N h2) (iC ⟨fun q=>(nomatch q),fun _=>bF ?_⟩)))⟩))⟩)))⟩))))
 clear hc n1 ht h2 h1 N; by_cases hv:v = 1
 ·rw [if_pos hv]
  exact cC (kZ (aO (aR (aA rfl) aB (congrArg some (decide_eq_true hv)))) aB) ⟨rfl,rfl⟩
 ·rw [if_neg hv]
  exact cC (gK (aO (aR (aA rfl) aB (congrArg some (decide_eq_false hv)))) aB) ⟨rfl,rfl⟩
theorem jJa (ht:H[t]? = some (tyF num "string" size base len fs ps mod lab hid)):W (aC tbl (n + 3) .typed_constant [.ref p,.ref t,.str "ab"] H) fun w H'=>w = .str "\"ab\""∧H' = H:=by
 refine xZ (w:=.none) (H':=H) ht (by decide +kernel) ?_
 refine bK (env:=[some (.ref p),some (.ref t),some (.str "ab"),none,none,none,none]) rfl ?_
 have hc:∀ {e b},decide (("string":Str) = e) = b→PT (aC tbl (n + 1)) [some (.ref p),some (.ref t),some (.str "ab"),none,none,none,none] H (.val (.cmp .Eq (.attr (.loc 1) 1) (.const (.str e)))) b:=fun h=>aO (aR (aF (aA rfl) ht rfl) aB (congrArg some h))
 refine bH (hc (by decide +kernel)) (bF (bH (hc (by decide +kernel)) (bF (bH (hc (by decide +kernel)) (bF (bH (hc (by decide +kernel)) (bF (bH (hc (by decide +kernel)) (bF (cJ (hc (by decide +kernel)) (cM (bO (aD (aA rfl) (aK ?_))))))))))))))
 have:aC tbl (n + 1) .string_text [.str "ab"] H = some (.str "\"ab\"",H):=by kernel_rfl
 exact W.of this ⟨rfl,rfl⟩
end
end Mine.C
end
section
namespace Mine.C
open PySem (Expr Stmt Str)
theorem rA {test:Env→Heap→Option (Bool × Heap)} {body:Env→Heap→ExR} {Q:Fl × Env→Heap→Prop} (P:Nat→Env→Heap→Prop) (h:∀ k env H,P k env H→W (test env H) fun b H1=>(b = false→Q (.next,env) H1)∧(b = true→W (body env H1) fun x H2=>match x.1 with | .ret _=>Q x H2 | _=>∃ k',k' < k∧P k' x.2 H2)) :
  ∀ (n k:Nat) (env:Env) (H:Heap),k < n→P k env H→W (mJ test body n env H) Q
 | 0,_,_,_,hk,_=>absurd hk (Nat.not_lt_zero _)
 | n + 1,k,env,H,hk,hp=>by
  refine bA (m:=test env H) (f:=fun b H1=>ifB b (bnd (body env H1) fun x H2=>dY x H2 (mJ test body n)) (some ((.next,env),H1))) ((h k env H hp).mono fun b H1 ⟨h1,h2⟩=>?_)
  clear hp; cases b with
  | false=>exact h1 rfl
  | true =>
   refine bA (m:=body env H1) (f:=fun x H2=>dY x H2 (mJ test body n)) ((h2 rfl).mono fun x H2 k2=>?_)
   obtain ⟨fl,e⟩:=x
   clear h2 h1; cases fl with
   | next=>obtain ⟨k',hk',hp'⟩:=k2; exact rA P h n k' e H2 (by exact lin [_,_,_] (.a .x (.n 1)) .y [(.a .x (.n 1),.z),(.a .z (.n 1),.a .y (.n 1))] rfl hk' hk) hp'
   | cont=>obtain ⟨k',hk',hp'⟩:=k2; exact rA P h n k' e H2 (by exact lin [_,_,_] (.a .x (.n 1)) .y [(.a .x (.n 1),.z),(.a .z (.n 1),.a .y (.n 1))] rfl hk' hk) hp'
   | ret v=>exact k2
noncomputable def bit (m:Int) (p:Nat):Bool:=decide (Int.fmod (Int.fdiv m (2 ^ p)) 2 = 1)
noncomputable def cU (m:Int):Nat→Nat→Nat
 | 0,p=>p
 | k + 1,p=>if bit m (p + 1) = true then cU m k (p + 1) else p
noncomputable def cP (m:Int):Nat→Nat→List (Nat × Nat)
 | 0,_=>[]
 | k + 1,p=>if p < 32 then (if bit m p = true then (p,cU m (31 - p) p) :: cP m k (cU m (31 - p) p + 1) else cP m k (p + 1)) else []
noncomputable def dR (r:Nat × Nat):Str:=if r.1 = r.2 then (toString (r.1:Int):String) else (toString (r.1:Int):String) ++ ("..":Str) ++ (toString (r.2:Int):String)
theorem lMa {m:Int} {k p:Nat}:cU m (k + 1) p = if bit m (p + 1) = true then cU m k (p + 1) else p:=rfl
theorem uU {m:Int} {k p:Nat}:cP m (k + 1) p = if p < 32 then (if bit m p = true then (p,cU m (31 - p) p) :: cP m k (cU m (31 - p) p + 1) else cP m k (p + 1)) else []:=rfl
theorem uV {m:Int}:∀ {k p:Nat},p + k ≤ 31→cU m k p ≤ 31∧p ≤ cU m k p
 | 0,p,h=>⟨h,Nat.le_refl _⟩
 | k + 1,p,h=>by
  rw [lMa]
  split
  ·obtain ⟨a,b⟩:=uV (m:=m) (k:=k) (p:=p + 1) (by exact lin [_,_] (.a (.a .x (.n 1)) .y) (.n 31) [(.a .x (.a .y (.n 1)),.n 31)] rfl h)
   exact ⟨a,by exact lin [_,_] .x .y [(.a .x (.n 1),.y)] rfl b⟩
  ·exact ⟨by exact lin [_,_] .x (.n 31) [(.a .x (.a .y (.n 1)),.n 31)] rfl h,Nat.le_refl _⟩
noncomputable abbrev stE (m:Int) (f:Nat) (p:Nat) (x3:Option V):Env:=[some (.int m),some (.ref f),some (.int p),x3,none,none,none,none]
section
variable {cf:aU} {m:Int} {f:Nat} {H:Heap}
theorem gXa {env:Env} {e:IE} {p:Nat} (hm:0 ≤ m∧m < 256) (hp:p < 62) (h0:(env[0]?).join = some (.int m)) (he:PE cf env H e (.int p)):PT cf env H (.val (.cmp .Eq (.bin .BitAnd (.bin .RShift (.loc 0) e) (.const (.int (1)))) (.const (.int (1))))) (bit m p):=by
 have h1:Int.fdiv m (2 ^ p) ≤ m:=by
  rw [Int.fdiv_eq_ediv_of_nonneg _ (Int.le_of_lt (Int.pow_pos (by decide)))]
  exact Int.ediv_le_self _ hm.1
 have h2:0 ≤ Int.fdiv m (2 ^ p):=Int.fdiv_nonneg hm.1 (Int.le_of_lt (Int.pow_pos (by decide)))
 refine aO (aR (dJ (dJ (r:=Int.fdiv m (2 ^ p)) (aA h0) he ?_) aB (r:=Int.fmod (Int.fdiv m (2 ^ p)) 2) ?_) aB rfl)
 ·exact cR (p:=0 ≤ m∧m < 9223372036854775808∧0 ≤ (p:Int)∧(p:Int) < 62) ⟨hm.1,by exact Int.lt_trans hm.2 (by decide),by exact Int.natCast_nonneg _,dD (b:=62) hp⟩ _
 ·exact cR (p:=0 ≤ _∧_ < 9223372036854775808∧(1:Int) = 1) ⟨h2,by exact Int.lt_of_le_of_lt h1 (Int.lt_trans hm.2 (by decide)),rfl⟩ _
theorem vR {a b:Int} {Q:V→Heap→Prop} (q:Q (.int (a + b)) H):W (gH (.int a) (.int b) H) Q:=q
theorem pVa {r:ISs} {p:Nat} {Q:Fl × Env→Heap→Prop} (hm:0 ≤ m∧m < 256) (hp:p ≤ 31) (q:W (aJ cf r (stE m f (cU m (31 - p) p) (some (.int p))) H) Q) :
  W (aJ cf (.cons (.while (.and (.val (.cmp .Lt (.loc 2) (.const (.int (31))))) (.val (.cmp .Eq (.bin .BitAnd (.bin .RShift (.loc 0) (.bin .Add (.loc 2) (.const (.int (1))))) (.const (.int (1)))) (.const (.int (1)))))) (.cons (.augl 2 (.const (.int (1)))) .nil)) r) (stE m f p (some (.int p))) H) Q:=by
 refine sW (rA (fun k env H'=>∃ y,env = stE m f y (some (.int p))∧H' = H∧k = 31 - y∧y ≤ 31∧cU m (31 - y) y = cU m (31 - p) p) ?_ 200 (31 - p) _ _ (by exact lin [_] (.a .x (.n 1)) (.n 200) [(.x,.n 31)] rfl (Nat.sub_le _ _)) ⟨p,rfl,rfl,rfl,hp,rfl⟩)
 rintro k env H' ⟨y,rfl,rfl,rfl,hy,hrun⟩
 have hlt:PT cf (stE m f y (some (.int p))) H' (.val (.cmp .Lt (.loc 2) (.const (.int (31))))) (decide ((y:Int) < 31)):=aO (aR (aA rfl) aB rfl)
 clear hp; by_cases h:y < 31
 ·rw [decide_eq_true (by exact dD (b:=31) (lin [_] (.a .x (.n 1)) (.n 31) [(.a .x (.n 1),.n 31)] rfl h))] at hlt
  have hb:=gXa (cf:=cf) (H:=H') (env:=stE m f y (some (.int p))) (e:=.bin .Add (.loc 2) (.const (.int 1))) (p:=y + 1) hm (Nat.lt_of_le_of_lt (by assumption) (by decide)) rfl (dJ (aA rfl) aB rfl)
  clear hm; obtain ⟨j,hj⟩:∃ j,31 - y = j + 1:=⟨30 - y,by exact Nat.le_antisymm (lin [_,_,_] .x (.a .y (.n 1)) [(.a .x .z,.n 31),(.n 30,.a .y .z)] rfl (eN (lin [_] .x (.n 31) [(.x,.n 31)] rfl hy)) (dK _ _)) (lin [_,_,_] (.a .x (.n 1)) .y [(.a .x .z,.n 30),(.n 31,.a .y .z)] rfl (eN (lin [_] .x (.n 30) [(.a .x (.n 1),.n 31)] rfl h)) (dK _ _))⟩
  rw [hj] at hrun
  have hrun:(if bit m (y + 1) = true then cU m j (y + 1) else y) = cU m (31 - p) p:=hrun
  refine T_p (gO hlt hb) ⟨fun hq=>?_,fun hq=>?_⟩
  ·rw [if_neg (by rw [hq]; exact fun q=>nomatch q)] at hrun
   rw [hrun]
   exact aZ q
  ·rw [if_pos hq] at hrun
   refine nP (old:=.int y) rfl (E_p aB (vR (aX ⟨31 - (y + 1),by exact lin [_,_,_] (.a .x (.n 1)) .y [(.a .x (.a .z (.n 1)),.n 31),(.n 31,.a .y .z)] rfl (eN (lin [_] (.a .x (.n 1)) (.n 31) [(.a .x (.n 1),.n 31)] rfl h)) (dK _ _),y + 1,rfl,rfl,rfl,by exact lin [_] (.a .x (.n 1)) (.n 31) [(.a .x (.n 1),.n 31)] rfl h,?_⟩)))
   rw [show 31 - (y + 1) = j by exact Nat.le_antisymm (lin [_,_,_,_] .x .y [(.a .x (.a .z (.n 1)),.n 31),(.n 31,.a .w .z),(.w,.a .y (.n 1))] rfl (eN (lin [_] (.a .x (.n 1)) (.n 31) [(.a .x (.n 1),.n 31)] rfl h)) (dK _ _) (Nat.le_of_eq hj)) (lin [_,_,_,_] .x .y [(.a .x (.n 1),.z),(.a .z .w,.n 31),(.n 31,.a .y (.a .w (.n 1)))] rfl (Nat.le_of_eq hj.symm) (eN (lin [_] .x (.n 31) [(.x,.n 31)] rfl hy)) (dK _ _))]
   exact hrun
 ·rw [decide_eq_false (by exact fun q=>h (fX (b:=31) q))] at hlt
  have h31:y = 31:=by exact Nat.le_antisymm (lin [_] .x (.n 31) [(.x,.n 31)] rfl hy) (lin [_] (.n 31) .x [(.n 31,.x)] rfl (Nat.le_of_not_lt h))
  clear h hy hm; subst h31
  refine T_p (jH hlt) ⟨fun _=>?_,fun q=>(nomatch q)⟩
  have hrun:31 = cU m (31 - p) p:=hrun
  rw [hrun]
  exact aZ q
end
end Mine.C
end
section
namespace Mine.C
open PySem (Expr Stmt Str)
theorem xNa {r:Nat × Nat} (h:r.1 < 2000∧r.2 < 2000):SL 10 (dR r):=by
 unfold dR
 split
 ·exact (jJ _ h.1).mono rfl
 ·exact aV (aV (jJ _ h.1) (aN (m:=2) (by kernel_rfl))) (jJ _ h.2)
theorem dPa {cf:aU} {env:Env} {H:Heap} {a b:IE} {p q:Nat} (ha:PE cf env H a (.int p)) (hb:PE cf env H b (.int q)) (hp:p < 2000∧q < 2000):PE cf env H (.ite (.val (.cmp .Eq a b)) (.blt .str (.cons a .nil)) (.bin .Add (.bin .Add (.blt .str (.cons a .nil)) (.const (.str ("..")))) (.blt .str (.cons b .nil)))) (.str (dR (p,q))):=by
 have h:PT cf env H (.val (.cmp .Eq a b)) (decide ((p:Int) = q)):=aO (aR ha hb rfl)
 unfold dR
 by_cases e:p = q
 ·rw [decide_eq_true (by exact qN e)] at h
  rw [if_pos (show (p,q).1 = (p,q).2 from e)]
  exact kZ h (jX ha (by exact ⟨Int.natCast_nonneg _,dD (b:=10000000000) (lin [_] (.a .x (.n 1)) (.n 10000000000) [(.a .x (.n 1),.n 2000)] rfl hp.1)⟩))
 ·rw [decide_eq_false (by exact fun q=>e (oO q))] at h
  rw [if_neg (show ¬ (p,q).1 = (p,q).2 from e)]
  exact gK h (bR (bR (jX ha (by exact ⟨Int.natCast_nonneg _,dD (b:=10000000000) (lin [_] (.a .x (.n 1)) (.n 10000000000) [(.a .x (.n 1),.n 2000)] rfl hp.1)⟩)) aB (jJ _ hp.1) (aN (m:=2) (by kernel_rfl)) rfl) (jX hb (by exact ⟨Int.natCast_nonneg _,dD (b:=10000000000) (lin [_] (.a .x (.n 1)) (.n 10000000000) [(.a .x (.n 1),.n 2000)] rfl hp.2)⟩)) (aV (jJ _ hp.1) (aN (m:=2) (by kernel_rfl))) (jJ _ hp.2) rfl)
theorem vH {m:Int}:∀ {k p:Nat},p ≤ 33→∀ r ∈ cP m k p,r.1 < 2000∧r.2 < 2000
 | 0,_,_,_,h=>nomatch h
 | k + 1,p,hp,r,h=>by
  rw [uU] at h
  split at h
  ·rename_i hlt
   have hr:=uV (m:=m) (k:=31 - p) (p:=p) (by exact lin [_,_] (.a .x .y) (.n 31) [(.a .y .x,.n 31)] rfl (eN (lin [_] .x (.n 31) [(.a .x (.n 1),.n 32)] rfl hlt)))
   split at h
   ·rcases List.mem_cons.mp h with rfl | h
    ·exact ⟨by exact lin [_] (.a .x (.n 1)) (.n 2000) [(.x,.n 33)] rfl hp,by exact lin [_] (.a .x (.n 1)) (.n 2000) [(.x,.n 31)] rfl hr.1⟩
    ·exact vH (by exact lin [_] (.a .x (.n 1)) (.n 33) [(.x,.n 31)] rfl hr.1) r h
   ·exact vH (by exact lin [_] (.a .x (.n 1)) (.n 33) [(.a .x (.n 1),.n 32)] rfl hlt) r h
  ·first | exact nos h | exact nof h | cases h
theorem vL {m:Int}:∀ {k p:Nat},(cP m k p).length ≤ k
 | 0,_=>Nat.le_refl _
 | k + 1,p=>by
  rw [uU]
  split
  ·split
   ·exact Nat.succ_le_succ vL
   ·exact Nat.le_trans vL (Nat.le_succ _)
  ·exact Nat.zero_le _
theorem uK {m:Int} {k p:Nat} (h:32 ≤ p):cP m k p = []:=by
 cases k with
 | zero=>rfl
 | succ k=>exact if_neg (by exact Nat.not_lt_of_le (lin [_] (.n 32) .x [(.n 32,.x)] rfl h))
theorem wR {m:Int}:∀ {k k' p:Nat},32 ≤ p + k→32 ≤ p + k'→cP m k p = cP m k' p
 | 0,k',p,h,_=>by rw [uK (by exact lin [_] (.n 32) .x [(.n 32,.a .x (.n 0))] rfl h),uK (by exact lin [_] (.n 32) .x [(.n 32,.a .x (.n 0))] rfl h)]
 | k + 1,0,p,_,h=>by rw [uK (by exact lin [_] (.n 32) .x [(.n 32,.a .x (.n 0))] rfl h),uK (by exact lin [_] (.n 32) .x [(.n 32,.a .x (.n 0))] rfl h)]
 | k + 1,k' + 1,p,h,h'=>by
  rw [uU,uU]
  split
  ·rename_i hlt
   have hr:=uV (m:=m) (k:=31 - p) (p:=p) (by exact lin [_,_] (.a .x .y) (.n 31) [(.a .y .x,.n 31)] rfl (eN (lin [_] .x (.n 31) [(.a .x (.n 1),.n 32)] rfl hlt)))
   clear hlt; split
   ·rw [wR (k:=k) (k':=k') (by exact lin [_,_,_] (.n 32) (.a (.a .x (.n 1)) .y) [(.n 32,.a .z (.a .y (.n 1))),(.z,.x)] rfl h hr.2) (by exact lin [_,_,_] (.n 32) (.a (.a .x (.n 1)) .y) [(.n 32,.a .z (.a .y (.n 1))),(.z,.x)] rfl h' hr.2)]
   ·rw [wR (k:=k) (k':=k') (by exact lin [_,_] (.n 32) (.a (.a .x (.n 1)) .y) [(.n 32,.a .x (.a .y (.n 1)))] rfl h) (by exact lin [_,_] (.n 32) (.a (.a .x (.n 1)) .y) [(.n 32,.a .x (.a .y (.n 1)))] rfl h')]
  ·rfl
noncomputable def qZ (rs:List (Nat × Nat)):Str:="{" ++ Str.join ", " (rs.map dR) ++ "}"
theorem wN {rs:List (Nat × Nat)} (hl:rs.length ≤ 40) (h:∀ r ∈ rs,r.1 < 2000∧r.2 < 2000):((rs.map dR).map (·.length)).sum + (rs.map dR).length * Str.length (", ":Str) ≤ lim∧SL 480 (Str.join ", " (rs.map dR)):=by
 have hy:∀ y ∈ rs.map dR,SL 10 y:=fun y hy=>by
  obtain ⟨r,hr,rfl⟩:=List.mem_map.mp hy
  exact xNa (h r hr)
 have h1:=vJ hy
 have h2:=kW (sep:=", ") (aN (m:=2) (by kernel_rfl)) hy
 have h3:Str.length (", ":Str) = 2:=by kernel_rfl
 rw [h3]
 rw [List.length_map] at h1 h2 ⊢
 exact ⟨lin [_,_] (.a .x (.q .y 2)) (.n 16777216) [(.x,.q .y 10),(.q .y 12,.n 480)] rfl h1 (Nat.mul_le_mul_right 12 hl),Nat.le_trans h2 (Nat.mul_le_mul_right 12 hl)⟩
theorem oHa {H:Heap} {n:Nat} {m:Int} (hm:0 ≤ m∧m < 256):W (aC tbl (n + 1) .set_text [.int m] H) (Ret H (.str (qZ (cP m 33 0)))):=by
 refine bK (env:=[some (.int m),none,none,none,none,none,none,none]) rfl ?_
 refine bC (bU (aK (bJ (aG rfl) fun f H1 x1 g1 m1=>gA aB ?_)))
 have hall:=vH (m:=m) (k:=33) (p:=0) (by exact lin [] (.n 0) (.n 33) [] rfl)
 have hlen:=vL (m:=m) (k:=33) (p:=0)
 refine sW (rA (fun k env H'=>∃ p x3 done,env = stE m f p x3∧p ≤ 33∧k = 33 - p∧Ext H H'∧H'[f]? = some (.list ((done.map dR).map V.str))∧done ++ cP m k p = cP m 33 0) ?_ 200 33 _ _ (by exact lin [] (.a (.n 33) (.n 1)) (.n 200) [] rfl) ⟨0,none,[],rfl,by exact lin [] (.n 0) (.n 33) [] rfl,rfl,x1,g1,rfl⟩)
 rintro k env H' ⟨p,x3,done,rfl,hp,rfl,e,g,hc⟩
 have hlt:PT (aC tbl n) (stE m f p x3) H' (.val (.cmp .Lt (.loc 2) (.const (.int (32))))) (decide ((p:Int) < 32)):=aO (aR (aA rfl) aB rfl)
 clear g1 x1; by_cases h:p < 32
 ·rw [decide_eq_true (by exact dD (b:=32) (lin [_] (.a .x (.n 1)) (.n 32) [(.a .x (.n 1),.n 32)] rfl h))] at hlt
  refine T_p hlt ⟨fun q=>(nomatch q),fun _=>?_⟩
  obtain ⟨j,hj⟩:∃ j,33 - p = j + 1:=⟨32 - p,by exact Nat.le_antisymm (lin [_,_,_] .x (.a .y (.n 1)) [(.a .x .z,.n 33),(.n 32,.a .y .z)] rfl (eN (lin [_] .x (.n 33) [(.x,.n 33)] rfl hp)) (dK _ _)) (lin [_,_,_] (.a .x (.n 1)) .y [(.a .x .z,.n 32),(.n 33,.a .y .z)] rfl (eN (lin [_] .x (.n 32) [(.a .x (.n 1),.n 32)] rfl h)) (dK _ _))⟩
  rw [hj] at hc
  have hc:done ++ (if p < 32 then (if bit m p = true then (p,cU m (31 - p) p) :: cP m j (cU m (31 - p) p + 1) else cP m j (p + 1)) else []) = cP m 33 0:=hc
  rw [if_pos h] at hc
  have hb:=gXa (cf:=aC tbl n) (H:=H') (env:=stE m f p x3) (e:=.loc 2) (p:=p) hm (by exact lin [_] (.a .x (.n 1)) (.n 62) [(.x,.n 33)] rfl hp) rfl (aA rfl)
  refine gZ hb (fun hq=>?_) fun hq=>?_
  ·rw [if_pos hq] at hc
   have hr:=uV (m:=m) (k:=31 - p) (p:=p) (by exact lin [_,_] (.a .x .y) (.n 31) [(.a .y .x,.n 31)] rfl (eN (lin [_] .x (.n 31) [(.a .x (.n 1),.n 32)] rfl h)))
   have hdl:done.length ≤ 1000:=by have:=congrArg List.length hc; rw [List.length_append] at this; exact lin [_,_,_] .x (.n 1000) [(.a .x .y,.z),(.z,.n 33)] rfl (Nat.le_of_eq this) hlen
   refine gA (aA rfl) (pVa (p:=p) hm (by exact lin [_] .x (.n 31) [(.a .x (.n 1),.n 32)] rfl h) (mQ (aA rfl) (dPa (p:=p) (q:=cU m (31 - p) p) (aA rfl) (aA rfl) ⟨by exact lin [_] (.a .x (.n 1)) (.n 2000) [(.x,.n 33)] rfl hp,by exact lin [_] (.a .x (.n 1)) (.n 2000) [(.x,.n 31)] rfl hr.1⟩) g (by rw [List.length_map,List.length_map]; exact hdl) fun H2 s2=>aX (aZ ?_)))
   refine nP (old:=.int (cU m (31 - p) p)) rfl (E_p aB (vR (aX ⟨33 - (cU m (31 - p) p + 1),by exact lin [_,_,_,_] (.a .x (.n 1)) .y [(.a .x (.a .z (.n 1)),.n 33),(.n 33,.a .y .w),(.w,.z)] rfl (eN (lin [_] (.a .x (.n 1)) (.n 33) [(.x,.n 31)] rfl hr.1)) (dK _ _) hr.2,cU m (31 - p) p + 1,_,done ++ [(p,cU m (31 - p) p)],rfl,by exact lin [_] (.a .x (.n 1)) (.n 33) [(.x,.n 31)] rfl hr.1,rfl,e.set s2 m1,by rw [s2.self,List.map_append,List.map_append]; rfl,?_⟩)))
   rw [← hc,List.append_assoc]
   rw [wR (k':=j) (by exact lin [_,_] (.n 32) (.a (.a .x (.n 1)) .y) [(.n 33,.a .y (.a .x (.n 1)))] rfl (dK _ _)) (by exact lin [_,_,_,_] (.n 32) (.a (.a .x (.n 1)) .y) [(.n 33,.a .z .w),(.z,.a .y (.n 1)),(.w,.x)] rfl (dK _ _) (Nat.le_of_eq hj) hr.2)]; rfl
  ·rw [if_neg (by rw [hq]; exact fun q=>nomatch q)] at hc
   refine bF (nP (old:=.int p) rfl (E_p aB (vR (aX ⟨33 - (p + 1),by exact lin [_,_,_] (.a .x (.n 1)) .y [(.a .x (.a .z (.n 1)),.n 33),(.n 33,.a .y .z)] rfl (eN (lin [_] (.a .x (.n 1)) (.n 33) [(.a .x (.n 1),.n 32)] rfl h)) (dK _ _),p + 1,_,done,rfl,by exact lin [_] (.a .x (.n 1)) (.n 33) [(.a .x (.n 1),.n 32)] rfl h,rfl,e,g,?_⟩))))
   rw [show 33 - (p + 1) = j by exact Nat.le_antisymm (lin [_,_,_,_] .x .y [(.a .x (.a .z (.n 1)),.n 33),(.n 33,.a .w .z),(.w,.a .y (.n 1))] rfl (eN (lin [_] (.a .x (.n 1)) (.n 33) [(.a .x (.n 1),.n 32)] rfl h)) (dK _ _) (Nat.le_of_eq hj)) (lin [_,_,_,_] .x .y [(.a .x (.n 1),.z),(.a .z .w,.n 33),(.n 33,.a .y (.a .w (.n 1)))] rfl (Nat.le_of_eq hj.symm) (eN (lin [_] .x (.n 33) [(.x,.n 33)] rfl hp)) (dK _ _))]
   exact hc
 ·rw [decide_eq_false (by exact fun q=>h (fX (b:=32) q))] at hlt
  refine T_p hlt ⟨fun _=>?_,fun q=>(nomatch q)⟩
  have hd:done = cP m 33 0:=by
   have:cP m (33 - p) p = []:=by
    clear hlt hp m1 hm; cases 33 - p with
    | zero=>rfl
    | succ j=>exact if_neg h
   rw [this,List.append_nil] at hc
   exact hc
  clear h hlt hc hp m1 hm; subst hd
  obtain ⟨q1,q2⟩:=wN (by exact lin [_] .x (.n 40) [(.x,.n 33)] rfl hlen) hall
  have hw:W (dI .join (.str ", ") [.ref f] H') fun v H2=>v = .str (Str.join ", " ((cP m 33 0).map dR))∧H2 = H':=mK g q1 ⟨rfl,rfl⟩
  clear q1 g hlen hall; obtain ⟨v,H2,ew,rfl,rfl⟩:=hw.run
  have s1:SL 1 ("{":Str):=aN (by kernel_rfl)
  exact aZ (cC (bR (bR aB (sV aB rfl (vs:=[.ref f]) rfl ew) s1 q2 rfl) aB (aV s1 q2) (aN (m:=1) (by kernel_rfl)) rfl) ⟨rfl,e⟩)
end Mine.C
end
section
namespace Mine.C
open PySem (Expr Stmt Str)
section
variable {cf:aU} {env:Env} {H:Heap} {o e:IE} {v:V} {r:ISs} {Q:Fl × Env→Heap→Prop}
theorem pD {p n:Nat} {c:Cls} {fs:List (Nat × V)} (ho:∀ H,PE cf env H o (.ref p)) (ha:H[p]? = some (.inst c fs)) (hl:fs.length ≤ 100) (q:∀ b H1 H',Ext H H1→H1[b]? = some (.list [])→H[b]? = none→bQ H1 p (.inst c (put n (.ref b) fs)) H'→W (aJ cf r env H') Q):W (aJ cf (.cons (.seta o n (.list .nil)) r) env H) Q :=
 cW (bU (aK (bJ (aG rfl) fun b H1 x1 g1 m1=>E_p (ho H1) (cZ (x1.get ha) hl fun H' s=>q b H1 H' x1 g1 m1 s))))
end
theorem mFa {H:Heap} {a n:Nat} {num size:Int} {form:Str} {Q:V→Heap→Prop} (ha:H[a]? = some (.inst .ty [])) (q:∀ H' f p h,But a H H'→H'[a]? = some (tyF num form size .none 0 f p "" "" h)→H'[f]? = some (.list [])→H'[p]? = some (.list [])→(H[f]? = none∧H[p]? = none∧f ≠ p)→Q .none H') :
  W (aC tbl (n + 1) .initTy [.ref a,.int num,.str form,.int size] H) Q:=by
 refine bK (env:=[some (.ref a),some (.int num),some (.str form),some (.int size),none,none,none,none]) rfl ?_
 refine cB (aA rfl) (aA rfl) ha (aG rfl) fun H1 s1=>?_
 refine cB (aA rfl) (aA rfl) s1.self (aG rfl) fun H2 s2=>?_
 refine cB (aA rfl) (aA rfl) s2.self (aG rfl) fun H3 s3=>?_
 refine cB aB (aA rfl) s3.self (aG rfl) fun H4 s4=>?_
 refine cB aB (aA rfl) s4.self (aG rfl) fun H5 s5=>?_
 have b5:But a H H5:=s1.but.trans (s2.but.trans (s3.but.trans (s4.but.trans s5.but)))
 refine pD (fun _=>aA rfl) s5.self (aG rfl) fun f H6 H7 x6 g6 m6 s7=>?_
 refine cB aB (aA rfl) s7.self (aG rfl) fun H8 s8=>?_
 have hf:f ≠ a:=(bV s5.self m6).symm
 have gf8:H8[f]? = some (.list []):=s8.get hf (s7.get hf g6)
 refine pD (fun _=>aA rfl) s8.self (aG rfl) fun p H9 H10 x9 g9 m9 s10=>?_
 have hp:p ≠ a:=(bV s8.self m9).symm
 have hfp:f ≠ p:=bV gf8 m9
 refine cB aB (aA rfl) s10.self (aG rfl) fun H11 s11=>?_
 refine cB aB (aA rfl) s11.self (aG rfl) fun H12 s12=>?_
 have gf12:H12[f]? = some (.list []):=s12.get hf (s11.get hf (s10.get hf (x9.get gf8)))
 have gp12:H12[p]? = some (.list []):=s12.get hp (s11.get hp (s10.get hp g9))
 refine pD (fun _=>aA rfl) s12.self (aG rfl) fun h H13 H14 x13 g13 m13 s14=>?_
 refine cB aB (aA rfl) s14.self (aG rfl) fun H15 s15=>?_
 have b8:But a H H8:=b5.trans (x6.but.trans (s7.but.trans s8.but))
 have b12:But a H H12:=b8.trans (x9.but.trans (s10.but.trans (s11.but.trans s12.but)))
 have none_of:∀ {Hk:Heap} {c:Nat},But a H Hk→c ≠ a→Hk[c]? = none→H[c]? = none:=fun {Hk c} b n m=>by
  cases w:H[c]? with
  | none=>rfl
  | some o=>rw [b c o n w] at m; first | exact nos m | exact nof m | cases m
 refine aX (qG (q H15 f p h (b12.trans (x13.but.trans (s14.but.trans s15.but))) s15.self (s15.get hf (s14.get hf (x13.get gf12))) (s15.get hp (s14.get hp (x13.get gp12))) ⟨none_of b5 hf m6,none_of b8 hp m9,hfp⟩))
theorem cEa {H:Heap} {a t n:Nat} {name kind:Str} {Q:V→Heap→Prop} (ha:H[a]? = some (.inst .ob [])) (q:∀ H',But a H H'→H'[a]? = some (obF name kind t false false .none)→Q .none H') :
  W (aC tbl (n + 1) .initOb [.ref a,.str name,.str kind,.ref t,.int 0] H) Q:=by
 refine bK (env:=[some (.ref a),some (.str name),some (.str kind),some (.ref t),some (.int 0),none,none,none,none]) rfl ?_
 refine cB (aA rfl) (aA rfl) ha (aG rfl) fun H1 s1=>?_
 refine cB (aA rfl) (aA rfl) s1.self (aG rfl) fun H2 s2=>?_
 refine cB (aA rfl) (aA rfl) s2.self (aG rfl) fun H3 s3=>?_
 refine cB (aA rfl) (aA rfl) s3.self (aG rfl) fun H4 s4=>?_
 refine cB aB (aA rfl) s4.self (aG rfl) fun H5 s5=>?_
 refine cB aB (aA rfl) s5.self (aG rfl) fun H6 s6=>?_
 refine cB aB (aA rfl) s6.self (aG rfl) fun H7 s7=>?_
 refine cB aB (aA rfl) s7.self (aG rfl) fun H8 s8=>?_
 refine cB aB (aA rfl) s8.self (aG rfl) fun H9 s9=>?_
 refine cB aB (aA rfl) s9.self (aG rfl) fun H10 s10=>?_
 refine cB aB (aA rfl) s10.self (aG rfl) fun H11 s11=>?_
 refine cB aB (aA rfl) s11.self (aG rfl) fun H12 s12=>?_
 refine cB aB (aA rfl) s12.self (aG rfl) fun H13 s13=>?_
 refine cB aB (aA rfl) s13.self (aG rfl) fun H14 s14=>?_
 exact aX (qG (q H14 (s1.but.trans (s2.but.trans (s3.but.trans (s4.but.trans (s5.but.trans (s6.but.trans (s7.but.trans (s8.but.trans (s9.but.trans (s10.but.trans (s11.but.trans (s12.but.trans (s13.but.trans s14.but))))))))))))) s14.self))
end Mine.C
end
section
namespace Mine.C
open PySem (Expr Stmt Str)
noncomputable def Fz (M:List Nat) (H H':Heap):Prop:=∀ (b:Nat) (o:O),b ∉ M→H[b]? = some o→H'[b]? = some o
theorem Fz.trans {M:List Nat} {A B C:Heap} (h:Fz M A B) (k:Fz M B C):Fz M A C:=fun b o n e=>k b o n (h b o n e)
theorem Ext.fz {M:List Nat} {A B:Heap} (h:Ext A B):Fz M A B:=fun b o _ e=>h b o e
theorem But.fz {M:List Nat} {f:Nat} {A B:Heap} (h:But f A B) (hf:f ∈ M):Fz M A B:=fun b o n e=>h b o (fun q=>n (q ▸ hf)) e
theorem But.fresh {f:Nat} {A B:Heap} (h:But f A B) (hf:A[f]? = none):Ext A B:=fun b o e=>h b o (fun q=>by rw [q,hf] at e; cases e) e
theorem fM.but {f:Nat} {A B:Heap} (h:fM A f B):But f A B:=fun b o n e=>(h b n).trans e
inductive Known (H:Heap) (kd k:Nat):Prop where
 | nil:H[kd]? = some (.dict [])→Known H kd k
 | some {ks:List (List Str)}:H[kd]? = some (.tdict ks)→ks.length ≤ k→Known H kd k
theorem uHa {H:Heap} {kd t k:Nat} {a b:Str} {v:V} {P:Heap→Prop} (h:Known H kd k) (hk:k ≤ 1000) (ht:H[t]? = some (.tuple [.str a,.str b])) (q:∀ H',But kd H H'→Known H' kd (k + 1)→P H'):G (jP (.ref kd) (.ref t) v H) P:=by
 cases h with
 | nil g =>
  refine ⟨H.set kd (.tdict [[a,b]]),?_,q _ (gJ g).but (.some (ks:=[[a,b]]) (gJ g).self (Nat.le_add_left _ _))⟩
  show (iY (.ref t) v H H[kd]?).map _ = _
  rw [g]
  show (((jG H[t]?).bind fun us=>(oK us).map fun p=>O.tdict [[p.1,p.2]])).map (fun o'=>List.set H kd o') = _
  rw [ht]; rfl
 | @some ks g hl =>
  refine ⟨H.set kd (.tdict (if [a,b] ∈ ks then ks else ks ++ [[a,b]])),?_,q _ (gJ g).but (.some (gJ g).self ?_)⟩
  ·show (iY (.ref t) v H H[kd]?).map _ = _
   rw [g]
   show (aP (decide (ks.length ≤ 1000)) ((jG H[t]?).bind fun us=>(oK us).map fun p=>O.tdict (if [p.1,p.2] ∈ ks then ks else ks ++ [[p.1,p.2]]))).map (fun o'=>List.set H kd o') = _
   rw [ht,cR (Nat.le_trans hl hk)]; rfl
  ·clear g q ht hk; split
   ·exact lin [_,_] .x (.a .y (.n 1)) [(.x,.y)] rfl hl
   ·rw [List.length_append]; show ks.length + 1 ≤ k + 1; exact lin [_,_] (.a .x (.n 1)) (.a .y (.n 1)) [(.x,.y)] rfl hl
structure gSa (H:Heap) (T kd:Nat) (c:Int) (fs:List (Nat × V)) (form:Str) (size:Int) (mod lab:Str) (k:Nat) (a:Nat) (H':Heap):Prop where
 fz:Fz [T,kd] H H'
 fresh:H[a]? = none
 tys:H'[T]? = some (.inst .tys (put 29 (.int (c + 1)) fs))
 known:Known H' kd k
 ty:∃ f p h,H'[a]? = some (tyF (c + 1) form size .none 0 f p mod lab h)∧H'[f]? = some (.list [])∧H'[p]? = some (.list [])∧H[f]? = none∧H[p]? = none∧f ≠ p
theorem new_ {H:Heap} {T kd k n:Nat} {c size:Int} {fs:List (Nat × V)} {form mod lab:Str} {vs:List V} (hT:H[T]? = some (.inst .tys fs)) (hc:look 29 fs = some (.int c)) (hk:∀ v,look 30 (put 29 v fs) = some (.ref kd)) (hl:fs.length ≤ 90) (hK:Known H kd k) (hk1:k ≤ 1000) (hne:T ≠ kd)
  (hv:mY (tbl .new) vs = some [some (.ref T),some (.str form),some (.int size),some (.str mod),some (.str lab),none,none,none,none,none]) :
  W (aC tbl (n + 2) .new vs H) fun v H'=>∃ a,v = .ref a∧gSa H T kd c fs form size mod lab (k + 1) a H':=by
 have hl1:∀ v,(put 29 v fs).length ≤ 100:=fun v=>by
  have:∀ es:List (Nat × V),(put 29 v es).length ≤ es.length + 1:=by
   intro es
   induction es with
   | nil=>exact Nat.le_refl _
   | cons p r ih=>obtain ⟨a,b⟩:=p; rw [jQ]; split <;> simp only [List.length_cons] <;> first | exact Nat.le_succ _ | exact Nat.succ_le_succ ih
  have:=this fs
  exact lin [_,_] .x (.n 100) [(.x,.a .y (.n 1)),(.y,.n 90)] rfl this hl
 have hput:∀ v,look 29 (put 29 v fs) = some v:=fun v=>by
  clear hl1 hk hl hT hc
  induction fs with
  | nil=>rfl
  | cons p r ih =>
   obtain ⟨a,b⟩:=p
   rw [jQ]
   split
   ·rename_i e; subst e; exact if_pos rfl
   ·rename_i e; exact (if_neg e).trans ih
 refine bK hv ?_
 refine yK (E_p (aA rfl) ⟨.int c,cT hT hc,E_p aB (vR (cZ hT (by exact lin [_] .x (.n 100) [(.x,.n 90)] rfl hl) fun H1 s1=>?_))⟩)
 have k1:Known H1 kd k:=by
  clear hl1 hv hl hc hT; cases hK with
  | nil g=>exact .nil (s1.get hne.symm g)
  | some g h=>exact .some (s1.get hne.symm g) h
 refine bC (tO (aD (aF (aA rfl) s1.self (hput _)) (aD (aA rfl) (aD (aA rfl) (aK ⟨fun q=>(by have:=s1.self; rw [q] at this; cases this),?_⟩)))))
 have hna:H1[H1.length]? = none:=pY H1
 refine mFa (oF H1 _) fun H2 f p h b2 g2 gf gp hfr=>⟨rfl,?_⟩
 have e2:Ext H1 H2:=((nA H1 _).but.trans b2).fresh hna
 have hTa:T ≠ H1.length:=bV s1.self hna
 have hfa:f ≠ H1.length:=fun q=>by have:=hfr.1; rw [q,oF] at this; first | exact nos this | exact nof this | cases this
 have hpa:p ≠ H1.length:=fun q=>by have:=hfr.2.1; rw [q,oF] at this; first | exact nos this | exact nof this | cases this
 refine cB (aA rfl) (aA rfl) g2 (aG rfl) fun H3 s3=>?_
 refine cB (aA rfl) (aA rfl) s3.self (aG rfl) fun H4 s4=>?_
 have e4:Ext H1 H4:=(e2.but.trans (s3.but.trans s4.but)).fresh hna
 have none1:∀ b:Nat,H1[b]? = none→H[b]? = none:=fun b hb=>by
  clear hTa e2 g2 b2 hput hl1 hv hl hc hT; by_cases hbT:b = T
  ·subst hbT; rw [s1.self] at hb; first | exact nos hb | exact nof hb | cases hb
  ·rw [← s1.other b hbT]; exact hb
 have nf:H[f]? = none:=none1 f ((nA H1 _).none hfr.1)
 have np:H[p]? = none:=none1 p ((nA H1 _).none hfr.2.1)
 have k4:Known H4 kd k:=by
  clear hTa e2 g2 b2 hput hl1 hv hl hc hT; cases k1 with
  | nil g=>exact .nil (e4.get g)
  | some g h=>exact .some (e4.get g) h
 have fz4:Fz [T,kd] H H4:=(s1.but.fz (.head _)).trans e4.fz
 have gf4:H4[f]? = some (.list []):=s4.get hfa (s3.get hfa gf)
 have gp4:H4[p]? = some (.list []):=s4.get hpa (s3.get hpa gp)
 have hd:PT (aC tbl (n + 1)) [some (.ref T),some (.str form),some (.int size),some (.str mod),some (.str lab),some (.ref H1.length),none,none,none,none] H4 (.val (.cmp .NotEq (.loc 4) (.const (.str "")))) (!decide (lab = "")):=aO (aR (aA rfl) aB rfl)
 refine gZ hd (fun _=>?_) fun _=>bF (cC (aA rfl) ⟨_,rfl,fz4,none1 _ hna,e4.get s1.self,?_,f,p,h,s4.self,gf4,gp4,nf,np,hfr.2.2⟩)
 ·refine lD (E_p (aA rfl) (E_p (aF (aA rfl) (e4.get s1.self) (hk _)) (fV (aD (aA rfl) (aD (aA rfl) (aK (iM (aG rfl) fun t H5 x5 g5 m5=>?_)))))))
  have k5:Known H5 kd k:=by
   clear m5 hd s3 hpa hfa hTa e2 gp gf g2 b2 k1 hput hl1 hv hl hk hc hT; cases k4 with
   | nil g=>exact .nil (x5.get g)
   | some g h=>exact .some (x5.get g) h
  have old:∀ (b:Nat) (o:O),b ≠ kd→H4[b]? = some o→∀ H6,But kd H5 H6→H6[b]? = some o:=fun b o n e H6 k=>k b o n (x5.get e)
  have hkd:∃ o,H[kd]? = some o:=by
   clear m5 hd s3 hpa hfa hTa e2 gp gf g2 b2 k1 hput hl1 hv hl hk hc hT; cases hK with
   | nil g=>exact ⟨_,g⟩
   | some g _=>exact ⟨_,g⟩
  obtain ⟨ok,hkd⟩:=hkd
  have hakd:H1.length ≠ kd:=fun q=>by have:=none1 _ hna; rw [q,hkd] at this; first | exact nos this | exact nof this | cases this
  have hfkd:f ≠ kd:=fun q=>by rw [q,hkd] at nf; first | exact nos nf | exact nof nf | cases nf
  have hpkd:p ≠ kd:=fun q=>by rw [q,hkd] at np; first | exact nos np | exact nof np | cases np
  refine uHa k5 hk1 g5 fun H6 b6 k6=>aX (aZ (cC (aA rfl) ⟨_,rfl,(fz4.trans x5.fz).trans (b6.fz (.tail _ (.head _))),none1 _ hna,old _ _ hne (e4.get s1.self) H6 b6,k6,f,p,h,old _ _ hakd s4.self H6 b6,old _ _ hfkd gf4 H6 b6,old _ _ hpkd gp4 H6 b6,nf,np,hfr.2.2⟩))
 ·clear hd gp4 gf4 fz4 np nf none1 e4 s4 s3 hpa hfa hTa e2 hfr gp gf g2 b2 hna k1 s1 hput hl1 hv hne hk1 hK hl hk hc hT; cases k4 with
  | nil g=>exact .nil g
  | some g h=>exact .some g (Nat.le_succ_of_le h)
end Mine.C
end
section
namespace Mine.C
open PySem (Expr Stmt Str)
inductive bL (H:Heap) (a:Nat) (num:Int) (form:Str) (size:Int):Prop where
 | mk (f p h):H[a]? = some (tyF num form size .none 0 f p "" "" h)→bL H a num form size
theorem bL.fz {M:List Nat} {H H':Heap} {a:Nat} {num size:Int} {form:Str} (h:bL H a num form size) (k:Fz M H H') (n:a ∉ M):bL H' a num form size:=let ⟨f,p,q,e⟩:=h; ⟨f,p,q,k a _ n e⟩
theorem Known.here {H:Heap} {kd k:Nat} (h:Known H kd k):∃ o,H[kd]? = Option.some o:=by
 cases h with
 | nil g=>exact ⟨_,g⟩
 | some g _=>exact ⟨_,g⟩
theorem nW {H:Heap} {T kd k n x:Nat} {c size:Int} {fs:List (Nat × V)} {form:Str} {r:ISs} {env:Env} {Q:Fl × Env→Heap→Prop} (h0:(env[0]?).join = some (.ref T)) (hT:H[T]? = some (.inst .tys fs)) (hc:look 29 fs = some (.int c)) (hk:∀ v,look 30 (put 29 v fs) = some (.ref kd)) (hl:fs.length ≤ 90) (hl2:(put 29 (V.int (c + 1)) fs).length ≤ 100) (hK:Known H kd k) (hk1:k ≤ 1000) (hne:T ≠ kd)
  (q:∀ H' a,Fz [T,kd] H H'→a ∉ [T,kd]→H[a]? = none→H'[T]? = some (.inst .tys (put x (.ref a) (put 29 (.int (c + 1)) fs)))→Known H' kd (k + 1)→bL H' a (c + 1) form size→W (aJ (aC tbl (n + 2)) r env H') Q) :
  W (aJ (aC tbl (n + 2)) (.cons (.seta (.loc 0) x (.ometh .new .tys (.loc 0) (.cons (.const (.str form)) (.cons (.const (.int size)) .nil)))) r) env H) Q:=by
 refine cW (fZ (E_p (aA h0) ⟨k_inst hT,aD aB (aD aB (aK ((new_ (form:=form) (size:=size) (mod:="") (lab:="") hT hc hk hl hK hk1 hne rfl).mono fun v H1 N=>?_)))⟩))
 obtain ⟨a,rfl,⟨n1,n2,n3,n4,f,p,h,t1,t2,t3,t4,t5,t6⟩⟩:=N
 obtain ⟨ok,hkd⟩:=hK.here
 have haT:a ≠ T:=fun w=>by rw [w,hT] at n2; first | exact nos n2 | exact nof n2 | cases n2
 have hak:a ≠ kd:=fun w=>by rw [w,hkd] at n2; first | exact nos n2 | exact nof n2 | cases n2
 refine E_p (aA h0) (cZ n3 hl2 fun H2 s2=>q H2 a (n1.trans (s2.but.fz (.head _))) (by simp [haT,hak]) n2 s2.self ?_ ⟨f,p,h,s2.get haT t1⟩)
 cases n4 with
 | nil g=>exact .nil (s2.get hne.symm g)
 | some g l=>exact .some (s2.get hne.symm g) l
noncomputable abbrev cBa (c:Int) (kd bo ch by_ it ma ni no:Nat):O:=.inst .tys [(29,.int c),(30,.ref kd),(31,.ref bo),(32,.ref ch),(33,.ref by_),(34,.ref it),(35,.ref ma),(36,.ref ni),(37,.ref no)]
theorem uJa {H:Heap} {T n:Nat} {Q:V→Heap→Prop} (hT:H[T]? = some (.inst .tys [])) (q:∀ H' kd bo ch by_ it ma ni no,But T H H'→H[kd]? = none→kd ≠ T→H'[T]? = some (cBa 7 kd bo ch by_ it ma ni no)→Known H' kd 7 →
  bL H' bo 1 "boolean" 1→bL H' ch 2 "char" 1→bL H' it 4 "integer" 4→bL H' ma 5 "set" 4→bL H' no 7 "none" 0→(bo ∉ [T,kd]∧ch ∉ [T,kd]∧it ∉ [T,kd]∧ma ∉ [T,kd]∧no ∉ [T,kd])→Q .none H') :
  W (aC tbl (n + 3) .initTys [.ref T] H) Q:=by
 refine bK (env:=[some (.ref T),none,none,none,none]) rfl ?_
 refine cB aB (aA rfl) hT (aG rfl) fun H1 s1=>?_
 refine cW (iU (aK (lE (by decide) fun kd H2 x2 g2 m2=>E_p (aA rfl) (cZ (x2.get s1.self) (aG rfl) fun H3 s3=>?_))))
 have hne:T ≠ kd:=bV s1.self m2
 have K3:Known H3 kd 0:=.nil (s3.get hne.symm g2)
 have hkd:H[kd]? = none:=by rw [← s1.other kd hne.symm]; exact m2
 refine nW (c:=0) rfl s3.self rfl (fun _=>rfl) (aG rfl) (aG rfl) K3 (aG rfl) hne fun H4 bo z4 i4 f4 t4 k4 b4=>?_
 refine nW (c:=1) rfl t4 rfl (fun _=>rfl) (aG rfl) (aG rfl) k4 (aG rfl) hne fun H5 ch z5 i5 f5 t5 k5 b5=>?_
 refine nW (c:=2) rfl t5 rfl (fun _=>rfl) (aG rfl) (aG rfl) k5 (aG rfl) hne fun H6 by_ z6 i6 f6 t6 k6 b6=>?_
 refine nW (c:=3) rfl t6 rfl (fun _=>rfl) (aG rfl) (aG rfl) k6 (aG rfl) hne fun H7 it z7 i7 f7 t7 k7 b7=>?_
 refine nW (c:=4) rfl t7 rfl (fun _=>rfl) (aG rfl) (aG rfl) k7 (aG rfl) hne fun H8 ma z8 i8 f8 t8 k8 b8=>?_
 refine nW (c:=5) rfl t8 rfl (fun _=>rfl) (aG rfl) (aG rfl) k8 (aG rfl) hne fun H9 ni z9 i9 f9 t9 k9 b9=>?_
 refine nW (c:=6) rfl t9 rfl (fun _=>rfl) (aG rfl) (aG rfl) k9 (aG rfl) hne fun H10 no z10 i10 f10 t10 k10 b10=>?_
 have z8':=z9.trans z10
 have z7':=z8.trans z8'
 have z5':=z6.trans (z7.trans z7')
 have z4':=z5.trans z5'
 have all:Fz [T,kd] H3 H10:=z4.trans z4'
 have but:But T H H10:=fun b o n e=>all b o (by
  have w:b ≠ kd:=fun w=>by rw [w,hkd] at e; first | exact nos e | exact nof e | cases e
  simp [n,w]) ((s1.but.trans (x2.but.trans s3.but)) b o n e)
 exact aX (qG (q H10 kd bo ch by_ it ma ni no but hkd hne.symm t10 k10 (b4.fz z4' i4) (b5.fz z5' i5) (b7.fz z7' i7) (b8.fz z8' i8) b10 ⟨i4,i5,i7,i8,i10⟩))
end Mine.C
end
section
namespace Mine.C
open PySem (Expr Stmt Str)
noncomputable def zX:O→Bool
 | .tdict _=>true
 | _=>false
noncomputable def mask (M:List Nat) (H:Heap):Heap:=H.mapIdx fun i o=>if i ∈ M then .tdict [] else o
noncomputable def Xj (H H':Heap):Prop:=∀ (a:Nat) (o:O),H[a]? = some o→zX o = false→H'[a]? = some o
theorem Ext.xj {A B:Heap} (h:Ext A B):Xj A B:=fun a o e _=>h a o e
theorem dW {M:List Nat} {H:Heap} {a:Nat} {o:O} (h:(mask M H)[a]? = some o) (j:zX o = false):a ∉ M∧H[a]? = some o:=by
 unfold mask at h
 rw [List.getElem?_mapIdx] at h
 obtain ⟨x,h1,h2⟩:=Option.map_eq_some_iff.mp h
 clear h; by_cases m:a ∈ M
 ·rw [if_pos m] at h2; subst h2; first | exact nos j | exact nof j | cases j
 ·rw [if_neg m] at h2; subst h2; exact ⟨m,h1⟩
theorem dN {M:List Nat} {H:Heap} {a:Nat} {o:O} (m:a ∉ M) (h:H[a]? = some o):(mask M H)[a]? = some o:=by
 unfold mask
 rw [List.getElem?_mapIdx,h]
 exact congrArg some (if_neg m)
theorem uW {M:List Nat} {H:Heap}:Xj (mask M H) H:=fun _ _ e j=>(dW e j).2
theorem Fz.mask {M:List Nat} {H H':Heap} (h:Fz M H H'):Xj (mask M H) (mask M H'):=fun a o e j=>by
 obtain ⟨m,e1⟩:=dW e j
 exact dN m (h a o m e1)
theorem GS.mono {H H':Heap} {P P':Nat→Prop} {a:Nat} (x:Xj H H') (hp:∀ b,P b→P' b) (h:GS H P a):GS H' P' a:=by
 cases h with
 | arr e n l p=>exact .arr (x _ _ e rfl) n l (hp _ p)
 | ptr e n p=>exact .ptr (x _ _ e rfl) n (hp _ p)
 | rcd e n b f l q=>exact .rcd (x _ _ e rfl) n (b.imp_right fun ⟨c,h1,h2⟩=>⟨c,h1,hp _ h2⟩) (x _ _ f rfl) l fun g hg=>⟨x _ _ (q g hg).1 rfl,(q g hg).2.1,hp _ (q g hg).2.2⟩
theorem GT.xj {H H':Heap} (x:Xj H H'):∀ {d a:Nat},GT H d a→GT H' d a
 | 0,a,h=>by
  cases h with
  | basic e m f l=>exact .basic (x _ _ e rfl) m f l
  | other e n=>exact .other (x _ _ e rfl) n
 | d + 1,a,h=>h.imp (GT.xj x) (GS.mono x fun _=>GT.xj x)
theorem GT.up {H:Heap} {d k a:Nat} (h:GT H d a):GT H (d + k) a:=by
 induction k with
 | zero=>exact h
 | succ k ih=>exact .inl ih
theorem bL.gt {H:Heap} {a:Nat} {num size:Int} {form s:Str} (h:bL H a num form size) (hn:num < 8) (hf:look form bEs = some (.str s)) (hs:SL 7 s):GT H 0 a:=let ⟨_,_,_,e⟩:=h; .basic e hn hf hs
end Mine.C
end
section
namespace Mine.C
open PySem (Expr Stmt Str)
structure Bld (H:Heap) (h c T kd:Nat) (ct:Int) (k:Nat) (bo ch by_ it ma ni no:Nat):Prop where
 hand:pU H h c
 tys:H[T]? = some (cBa ct kd bo ch by_ it ma ni no)
 known:Known H kd k
 ct:7 ≤ ct
section
variable {H H':Heap} {h c T kd k bo ch by_ it ma ni no:Nat} {ct:Int}
structure NeB (h c T kd:Nat):Prop where
 n1:h ≠ T
 n2:h ≠ kd
 n3:c ≠ T
 n4:c ≠ kd
 n5:c ≠ h
 n6:T ≠ kd
theorem Bld.ne (B:Bld H h c T kd ct k bo ch by_ it ma ni no):NeB h c T kd:=by
 obtain ⟨ns,pos,rest,seed,A⟩:=B.hand
 have k1:∀ {b vs},H[b]? = some (.list vs)→b ≠ T∧b ≠ kd:=fun e=>⟨fun q=>(by rw [q,B.tys] at e; cases e),fun q=>(by
  cases B.known with
  | nil g=>rw [q,g] at e; first | exact nos e | exact nof e | cases e
  | some g _=>rw [q,g] at e; cases e)⟩
 refine ⟨(k1 A.hand).1,(k1 A.hand).2,(k1 A.cells).1,(k1 A.cells).2,A.ne,fun q=>?_⟩
 cases B.known with
 | nil g=>rw [← q,B.tys] at g; first | exact nos g | exact nof g | cases g
 | some g _=>rw [← q,B.tys] at g; first | exact nos g | exact nof g | cases g
theorem Bld.keep (B:Bld H h c T kd ct k bo ch by_ it ma ni no) (x:∀ b:Nat,b = h ∨ b = c ∨ b = T ∨ b = kd→∀ o,H[b]? = some o→H'[b]? = some o):Bld H' h c T kd ct k bo ch by_ it ma ni no:=by
 obtain ⟨ns,pos,rest,seed,A⟩:=B.hand
 refine ⟨⟨ns,pos,rest,seed,x _ (.inl rfl) _ A.hand,x _ (.inr (.inl rfl)) _ A.cells,A.pos,A.rest,A.seed⟩,x _ (.inr (.inr (.inl rfl))) _ B.tys,?_,B.ct⟩
 cases B.known with
 | nil g=>exact .nil (x _ (.inr (.inr (.inr rfl))) _ g)
 | some g l=>exact .some (x _ (.inr (.inr (.inr rfl))) _ g) l
theorem Bld.ext (B:Bld H h c T kd ct k bo ch by_ it ma ni no) (x:Ext H H'):Bld H' h c T kd ct k bo ch by_ it ma ni no:=B.keep fun b _ o e=>x b o e
theorem Bld.pick (B:Bld H h c T kd ct k bo ch by_ it ma ni no) {m:Int} {v:V} (P:Picked H h c m v H'):Bld H' h c T kd ct k bo ch by_ it ma ni no:=by
 obtain ⟨n1,n2,n3,n4,n5,n6⟩:=B.ne
 refine ⟨P.ok,(P.same _ (Ne.symm n1)).trans B.tys,?_,B.ct⟩
 cases B.known with
 | nil g=>exact .nil ((P.same _ (Ne.symm n2)).trans g)
 | some g l=>exact .some ((P.same _ (Ne.symm n2)).trans g) l
theorem Bld.new (B:Bld H h c T kd ct k bo ch by_ it ma ni no) {form mod lab:Str} {size:Int} {a:Nat} (N:gSa H T kd ct [(29,.int ct),(30,.ref kd),(31,.ref bo),(32,.ref ch),(33,.ref by_),(34,.ref it),(35,.ref ma),(36,.ref ni),(37,.ref no)] form size mod lab (k + 1) a H'):Bld H' h c T kd (ct + 1) (k + 1) bo ch by_ it ma ni no:=by
 obtain ⟨n1,n2,n3,n4,n5,n6⟩:=B.ne
 obtain ⟨ns,pos,rest,seed,A⟩:=B.hand
 exact ⟨⟨ns,pos,rest,seed,N.fz _ _ (by simp [n1,n2]) A.hand,N.fz _ _ (by simp [n3,n4]) A.cells,A.pos,A.rest,A.seed⟩,N.tys,N.known,by have:=B.ct; exact Int.le_trans this zA_⟩
theorem dO {n:Nat} {env:Env} {he ke:IE} {m:Int} {Q:V→Heap→Prop} (B:Bld H h c T kd ct k bo ch by_ it ma ni no) (h0:PE (aC tbl (n + 1)) env H he (.ref h)) (h1:PE (aC tbl (n + 1)) env H ke (.int m)) (hm:0 < m∧m < 1073741824)
  (q:∀ H' (i:Nat),(i:Int) < m→fM H h H'→Bld H' h c T kd ct k bo ch by_ it ma ni no→Q (.int i) H'):W (aH (aC tbl (n + 1)) env (.call .pick (.cons he (.cons ke .nil))) H) Q :=
 bO (aD h0 (aD h1 (aK ((oTa B.hand hm).mono fun v H' P=>by
  obtain ⟨i,rfl,i1,i2⟩:=P.val
  obtain ⟨j,rfl⟩:=Int.eq_ofNat_of_zero_le i1
  exact q H' j i2 P.same (B.pick P)))))
end
theorem lM {vs:List V} {i:Nat} (hi:i < vs.length):((place (i:Int) vs.length).bind fun j=>vs[j]?) = some vs[i]:=by
 have hp:place (i:Int) vs.length = some i:=by
  unfold place
  rw [if_pos ⟨Int.natCast_nonneg _,Int.ofNat_lt.mpr hi⟩]; rfl
 rw [hp]
 exact List.getElem?_eq_getElem hi
theorem qK {H:Heap} {h c T kd k bo ch by_ it ma ni no n pl:Nat} {ct:Int} {env:Env} {he le:IE} {ps:List Nat} {Q:V→Heap→Prop} (B:Bld H h c T kd ct k bo ch by_ it ma ni no) (h0:PE (aC tbl (n + 1)) env H he (.ref h)) (hl:∀ H,PE (aC tbl (n + 1)) env H le (.ref pl)) (hp:H[pl]? = some (.list (ps.map V.ref))) (hne:pl ≠ h) (h1:ps ≠ []) (h2:ps.length ≤ 1000)
  (q:∀ H' a,a ∈ ps→fM H h H'→Bld H' h c T kd ct k bo ch by_ it ma ni no→Q (.ref a) H'):W (aH (aC tbl (n + 1)) env (.sub le (.call .pick (.cons he (.cons (.blt .len (.cons le .nil)) .nil)))) H) Q:=by
 have hlen:0 < ps.length:=by cases ps with | nil=>exact absurd rfl h1 | cons _ _=>exact Nat.succ_pos _
 refine gC (E_p (hl H) (dO B h0 (gM (hl H) hp) (by rw [List.length_map]; exact ⟨dD (lin [_] (.a (.n 0) (.n 1)) .x [(.a (.n 0) (.n 1),.x)] rfl hlen),dD (b:=1073741824) (lin [_] (.a .x (.n 1)) (.n 1073741824) [(.x,.n 1000)] rfl h2)⟩) fun H' i hi S B'=>?_))
 rw [List.length_map] at hi
 have hi':i < (ps.map V.ref).length:=by rw [List.length_map]; exact lin [_,_] (.a .x (.n 1)) .y [(.a .x (.n 1),.y)] rfl (fX hi)
 refine lK ((S pl hne).trans hp) (lM hi') ?_
 rw [List.getElem_map]
 exact q H' _ (List.getElem_mem _) S B'
end Mine.C
end
section
namespace Mine.C
open PySem (Expr Stmt Str)
noncomputable def fG (H:Heap) (a:Nat):Bool:=match eO (.ref a) 1 H with
 | some (.str s)=>decide (s = "record")
 | _=>false
theorem hQa {cf:aU} {env:Env} {H:Heap} {pl:Nat} {ps:List Nat} {Q:V→Heap→Prop} (h2:PE cf env H (.loc 2) (.ref pl)) (hp:H[pl]? = some (.list (ps.map V.ref))) (hl:ps.length ≤ 1000) (ht:∀ a ∈ ps,∃ num,dB H a num) (h9:∀ v,((bB 9 v env)[9]?).join = some v)
  (q:∀ b H1,Ext H H1→H1[b]? = some (.list ((ps.filter (fG H)).map V.ref))→H[b]? = none→Q (.ref b) H1):W (aH cf env (.comp [9] false (.of (.loc 2)) (.cons (.val (.cmp .Eq (.attr (.loc 9) 1) (.const (.str ("record"))))) .nil) (.loc 9)) H) Q:=by
 refine nC (p:=fun v=>match v with | .ref a=>fG H a | _=>false) (g:=id) (iJ h2 hp) (cO hp) (by show (ps.map _).length ≤ _; rw [List.length_map]; exact hl) (fun v hv=>?_) fun b H1 x1 g1 m1=>q b H1 x1 ?_ m1
 ·obtain ⟨a,ha,rfl⟩:=List.mem_map.mp (show v ∈ ps.map V.ref from hv)
  obtain ⟨num,form,size,base,len,fs,p,mod,lab,hid,e⟩:=ht a ha
  have hr:fG H a = decide (form = "record"):=by unfold fG; rw [cT e rfl]
  refine ⟨_,rfl,?_,fun _=>aA (h9 _)⟩
  show dU cf (bB 9 (.ref a) env) _ H = some (fG H a,H)
  rw [hr]
  have:PT cf (bB 9 (.ref a) env) H (.val (.cmp .Eq (.attr (.loc 9) 1) (.const (.str "record")))) (decide (form = "record")):=aO (aR (aF (aA (h9 _)) e rfl) aB rfl)
  exact (bI this _).trans (by cases decide (form = "record") <;> rfl)
 ·rw [g1,List.map_id,List.filter_map]
  rfl
structure Made (M:List Nat) (H H':Heap) (h c T kd:Nat) (ct:Int) (k bo ch by_ it ma ni no d:Nat) (ps:List Nat) (lab:Str) (a:Nat):Prop where
 fz:Fz [h,T,kd] H H'
 bld:∃ ct' k',ct ≤ ct'∧k' ≤ k + 1∧Bld H' h c T kd ct' k' bo ch by_ it ma ni no∧(a ∈ ps ∨ (H[a]? = none∧∃ num form size base len fs p hid,H'[a]? = some (tyF num form size base len fs p "M" lab hid)∧ct < num∧num ≤ ct'))
 ty:GT (mask M H') (d + 1) a
theorem fM.fz {h T kd:Nat} {A B:Heap} (s:fM A h B):Fz [h,T,kd] A B:=s.but.fz (.head _)
theorem Fz.three {h T kd:Nat} {A B:Heap} (s:Fz [T,kd] A B):Fz [h,T,kd] A B:=fun b o n e=>s b o (fun q=>n (.tail _ q)) e
end Mine.C
end
section
namespace Mine.C
open PySem (Expr Stmt Str)
theorem Fz.sub {M N:List Nat} {A B:Heap} (h:Fz N A B) (k:∀ x ∈ N,x ∈ M):Fz M A B:=fun b o n e=>h b o (fun q=>n (k b q)) e
structure dG (M:List Nat) (H:Heap) (h T kd pl d:Nat) (ps:List Nat):Prop where
 at_:H[pl]? = some (.list (ps.map V.ref))
 ne:pl ∉ [h,T,kd]
 sub:∀ x ∈ [h,T,kd],x ∈ M
 here:∀ x ∈ M,∃ o,H[x]? = some o
 gt:∀ a ∈ ps,GT (mask M H) d a
 len:ps.length ≤ 900
 rcd:∃ a ∈ ps,fG H a = true
theorem dG.ty {M:List Nat} {H:Heap} {h T kd pl d:Nat} {ps:List Nat} (P:dG M H h T kd pl d ps):∀ a ∈ ps,∃ num,dB H a num:=fun a ha=>by
 obtain ⟨num,f,s,b,l,x,p,m,q,i,e⟩:=lY (P.gt a ha)
 exact ⟨num,f,s,b,l,x,p,m,q,i,(dW e rfl).2⟩
theorem dG.fz {M:List Nat} {H H':Heap} {h T kd pl d:Nat} {ps:List Nat} (P:dG M H h T kd pl d ps) (x:Fz [h,T,kd] H H') (hx:∀ y ∈ M,∃ o,H'[y]? = some o):dG M H' h T kd pl d ps :=
 ⟨x _ _ P.ne P.at_,P.ne,P.sub,hx,fun a ha=>(P.gt a ha).xj (x.sub P.sub).mask,P.len,by
  obtain ⟨a,ha,hr⟩:=P.rcd
  refine ⟨a,ha,?_⟩
  obtain ⟨num,f,s,b,l,y,p,m,q,i,e⟩:=lY (P.gt a ha)
  clear ha hx; obtain ⟨hm,e⟩:=dW e rfl
  have e':=x a _ (fun q=>hm (P.sub a q)) e
  unfold fG at hr ⊢
  rw [cT e rfl] at hr
  rw [cT e' rfl]
  exact hr⟩
theorem kKa {M:List Nat} {H H1:Heap} {h c T kd k bo ch by_ it ma ni no n pl d i:Nat} {ct:Int} {ps:List Nat} {lab:Str} (hi:i = 2 ∨ i = 3) (B:Bld H1 h c T kd ct k bo ch by_ it ma ni no) (hk:k ≤ 900) (P:dG M H1 h T kd pl d ps) (z:Fz [h,T,kd] H H1) (hH:∀ b:Nat,H1[b]? = none→H[b]? = none) :
  W (aJ (aC tbl (n + 2)) (.cons (.setl 7 (.comp [9] false (.of (.loc 2)) (.cons (.val (.cmp .Eq (.attr (.loc 9) 1) (.const (.str ("record"))))) .nil) (.loc 9)))
   (.cons (.setl 5 (.ometh .new .tys (.loc 1) (.cons (.sub (.list (.cons (.const (.str ("array"))) (.cons (.const (.str ("pointer"))) .nil))) (.bin .Sub (.loc 4) (.const (.int (2))))) (.cons (.const (.int (4))) (.cons (.const (.str ("M"))) (.cons (.loc 3) .nil))))))
   (.cons (.seta (.loc 5) 3 (.ite (.val (.cmp .Eq (.loc 4) (.const (.int (2))))) (.sub (.loc 2) (.call .pick (.cons (.loc 0) (.cons (.blt .len (.cons (.loc 2) .nil)) .nil)))) (.sub (.loc 7) (.call .pick (.cons (.loc 0) (.cons (.blt .len (.cons (.loc 7) .nil)) .nil))))))
   (.cons (.seta (.loc 5) 4 (.ite (.val (.cmp .Eq (.loc 4) (.const (.int (2))))) (.bin .Add (.const (.int (1))) (.call .pick (.cons (.loc 0) (.cons (.const (.int (9))) .nil)))) (.const (.int (0)))))
   (.cons (.ret (.loc 5)) .nil))))) [some (.ref h),some (.ref T),some (.ref pl),some (.str lab),some (.int i),none,none,none,none,none,none,none,none] H1)
   (Out fun v H'=>∃ a,v = .ref a∧Made M H H' h c T kd ct k bo ch by_ it ma ni no d ps lab a):=by
 refine cps fun G_ g_=>?_
 obtain ⟨n1,n2,n3,n4,n5,n6⟩:=B.ne
 refine g_ ?_
 clear g_
 refine bC (hQa (aA rfl) P.at_ (Nat.le_trans P.len (aG rfl)) P.ty (fun v=>rfl) fun rb H2 x2 g2 m2=>?_)
 have B2:=B.ext x2
 let form:Str:=if i = 2 then "array" else "pointer"
 have hsub:((place ((i:Int) - 2) [V.str "array",V.str "pointer"].length).bind fun j=>[V.str "array",V.str "pointer"][j]?) = some (.str form):=by
  clear n5 n4 n3 n2 n1; rcases hi with rfl | rfl <;> rfl
 refine bC (fZ (E_p (aA rfl) ⟨k_inst B2.tys,cF (gC (bU (aD aB (aD aB (aK (bJ (aG rfl) fun tb H3 x3 g3 m3=>E_p (dJ (aA rfl) aB rfl) (lK g3 hsub ?_)))))))⟩))
 have B3:=B2.ext x3
 refine aD aB (aD aB (aD (aA rfl) (aK ((new_ (form:=form) (size:=4) (mod:="M") (lab:=lab) B3.tys rfl (fun _=>rfl) (aG rfl) B3.known (by exact lin [_] .x (.n 1000) [(.x,.n 900)] rfl hk) n6 rfl).mono fun v H4 N=>?_))))
 refine cps fun G_ g_=>?_
 clear m3 g3 hsub B2 n6 n5 n4 n3 n2 n1 hk; obtain ⟨a,rfl,N⟩:=N
 have B4:=B3.new N
 obtain ⟨f,p,hid,t1,t2,t3,t4,t5,t6⟩:=N.ty
 refine g_ ?_
 clear g_
 have e13:Ext H1 H3:=x2.trans x3
 have z4:Fz [h,T,kd] H1 H4:=e13.fz.trans N.fz.three
 have na1:H1[a]? = none:=e13.none N.fresh
 have hne1:∀ {y x:Nat},H1[x]? = none→y = h ∨ y = c ∨ y = T ∨ y = kd→y ≠ x:=fun {y x} hx hy q=>by
  obtain ⟨ns,pos,rest,seed,A⟩:=B.hand
  obtain ⟨o,ho⟩:=B.known.here
  clear e13 t6 t5 t4 t3 t2 B3 x2; subst q
  rcases hy with rfl | rfl | rfl | rfl
  ·rw [A.hand] at hx; first | exact nos hx | exact nof hx | cases hx
  ·rw [A.cells] at hx; first | exact nos hx | exact nof hx | cases hx
  ·rw [B.tys] at hx; first | exact nos hx | exact nof hx | cases hx
  ·rw [ho] at hx; first | exact nos hx | exact nof hx | cases hx
 have hrb:rb ≠ h∧rb ∉ [T,kd]:=⟨(hne1 m2 (.inl rfl)).symm,fun q=>by
  clear e13 t6 t5 t4 t3 t2 B3 x2; rcases List.mem_cons.mp q with q | q
  ·exact hne1 m2 (.inr (.inr (.inl rfl))) q.symm
  ·exact hne1 m2 (.inr (.inr (.inr rfl))) (List.mem_singleton.mp q).symm⟩
 have grb:H4[rb]? = some (.list ((ps.filter (fG H1)).map V.ref)):=N.fz _ _ hrb.2 (x3.get g2)
 have gpl:H4[pl]? = some (.list (ps.map V.ref)):=z4 _ _ P.ne P.at_
 have hps:ps ≠ []:=fun q=>by obtain ⟨a,ha,_⟩:=P.rcd; rw [q] at ha; first | exact nos ha | exact nof ha | cases ha
 have hrs:ps.filter (fG H1) ≠ []:=fun q=>by
  obtain ⟨a,ha,hr⟩:=P.rcd
  have:a ∈ ps.filter (fG H1):=List.mem_filter.mpr ⟨ha,hr⟩
  rw [q] at this; first | exact nos this | exact nof this | cases this
 have hah:a ≠ h:=(hne1 na1 (.inl rfl)).symm
 have haM:a ∉ M:=fun q=>by obtain ⟨o,ho⟩:=P.here a q; rw [ho] at na1; first | exact nos na1 | exact nof na1 | cases na1
 have ha3:a ∉ [h,T,kd]:=fun q=>haM (P.sub a q)
 have fin:∀ H' b (len:Int),H'[a]? = some (tyF (ct + 1) form 4 (.ref b) len f p "M" lab hid)→b ∈ ps→(i = 2→1 ≤ len∧len ≤ 9)→(i = 3→len = 0)→Fz [h,T,kd] H1 H'→Bld H' h c T kd (ct + 1) (k + 1) bo ch by_ it ma ni no→∃ a',V.ref a = .ref a'∧Made M H H' h c T kd ct k bo ch by_ it ma ni no d ps lab a':=fun H' b len e hb h2 h3 zz BB=>by
  have hg:GT (mask M H') d b:=(P.gt b hb).xj (zz.sub P.sub).mask
  have hct:=B.ct
  refine ⟨a,rfl,z.trans zz,⟨_,_,by exact zA_,Nat.le_refl _,BB,.inr ⟨hH a na1,_,_,_,_,_,_,_,_,e,zB_,Int.le_refl _⟩⟩,.inr ?_⟩
  have e':=dN haM e
  clear BB ha3 haM e13 t6 t5 t4 t3 t2 N B3 x3 m2 g2 x2 hH z B; rcases hi with rfl | rfl
  ·exact .arr e' (by exact zC_ hct) (h2 rfl) hg
  ·rw [h3 rfl] at e'
   exact .ptr e' (by exact zC_ hct) hg
 have keep:∀ {Hx Hy:Heap} {o:O},bQ Hx a o Hy→Bld Hx h c T kd (ct + 1) (k + 1) bo ch by_ it ma ni no→Bld Hy h c T kd (ct + 1) (k + 1) bo ch by_ it ma ni no:=fun s B'=>B'.keep fun y hy o e=>s.get (hne1 na1 hy) e
 have zset:∀ {Hx Hy:Heap} {o:O},bQ Hx a o Hy→Fz [h,T,kd] H1 Hx→Fz [h,T,kd] H1 Hy:=fun s zz y o hy e=>s.get (fun q=>by rw [q,na1] at e; cases e) (zz y o hy e)
 have hplh:pl ≠ h:=fun q=>P.ne (by rw [q]; exact .head _)
 clear ha3 haM hne1 na1 e13 t6 t5 t4 t3 t2 N B3 x3 m2 g2 x2 hH z B; rcases id hi with rfl | rfl
 ·refine cW (mL (aO (aR (aA rfl) aB rfl)) (qK B4 (aA rfl) (fun _=>aA rfl) gpl hplh hps (Nat.le_trans P.len (aG rfl)) fun H5 b hb S5 B5=>E_p (aA rfl) (cZ ((S5 a hah).trans t1) (aG rfl) fun H6 s6=>?_)))
  have z6:=zset s6 (z4.trans S5.fz)
  refine cW (mL (aO (aR (aA rfl) aB rfl)) (bW (E_p aB (dO (keep s6 B5) (aA rfl) aB (by decide) fun H7 j hj S7 B7=>tYa rfl (E_p (aA rfl) (cZ ((S7 a hah).trans s6.self) (aG rfl) fun H8 s8=>cC (aA rfl) ?_))))))
  exact fin H8 b (1 + (j:Int)) s8.self hb (fun _=>⟨by exact vX (lin [_] (.n 1) (.a (.n 1) .x) [] rfl),by exact zE_ hj⟩) (fun q=>nomatch q) (zset s8 (z6.trans S7.fz)) (keep s8 B7)
 ·refine cW (mZ (aO (aR (aA rfl) aB rfl)) (qK B4 (aA rfl) (fun _=>aA rfl) grb hrb.1 hrs (Nat.le_trans (List.length_filter_le _ _) (Nat.le_trans P.len (aG rfl))) fun H5 b hb S5 B5=>E_p (aA rfl) (cZ ((S5 a hah).trans t1) (aG rfl) fun H6 s6=>?_)))
  have z6:=zset s6 (z4.trans S5.fz)
  refine cW (mZ (aO (aR (aA rfl) aB rfl)) (E_p aB (E_p (aA rfl) (cZ s6.self (aG rfl) fun H8 s8=>cC (aA rfl) ?_))))
  exact fin H8 b 0 s8.self (List.mem_filter.mp hb).1 (fun q=>nomatch q) (fun _=>rfl) (zset s8 z6) (keep s8 (keep s6 B5))
end Mine.C
end
section
namespace Mine.C
open PySem (Expr Stmt Str)
theorem qPa:∀ j:Nat,j < 4→SL 3 ("f" ++ (toString (j:Int):String):Str):=by
 have:∀ j:Nat,j < 4→Nat.ble (Str.length ("f" ++ (toString (j:Int):String):Str)) 3 = true:=by decide +kernel
 exact fun j h=>aN (this j h)
structure RF (M:List Nat) (H1:Heap) (h c T kd pl:Nat) (ct:Int) (k bo ch by_ it ma ni no d:Nat) (ps:List Nat) (lab:Str) (a f p hid:Nat) (base:V) (fl:List Fd) (H:Heap):Prop where
 bld:Bld H h c T kd (ct + 1) (k + 1) bo ch by_ it ma ni no
 fz:Fz [h,T,kd] H1 H
 ty:H[a]? = some (tyF (ct + 1) "record" 8 base 0 f p "M" lab hid)
 fs:H[f]? = some (.list (fl.map fun x=>.ref x.o))
 ok:∀ x ∈ fl,H[x.o]? = some (obF x.name "field" x.t x.exp false .none)∧SL 3 x.name∧x.t ∈ ps∧x.o ∉ M
noncomputable def aGa:ISs:=(.cons (.setl 6 (.make .ob .initOb (.cons (.bin .Add (.const (.str ("f"))) (.blt .str (.cons (.loc 8) .nil))) (.cons (.const (.str ("field"))) (.cons (.sub (.loc 2) (.call .pick (.cons (.loc 0) (.cons (.blt .len (.cons (.loc 2) .nil)) .nil)))) (.cons (.const (.int (0))) .nil))))))
 (.cons (.seta (.loc 6) 16 (.cmp .Lt (.call .pick (.cons (.loc 0) (.cons (.const (.int (3))) .nil))) (.const (.int (2)))))
 (.cons (.expr (.bmeth .append (.attr (.loc 5) 5) (.cons (.loc 6) .nil)))
 .nil)))
theorem nZa {M:List Nat} {H1 H:Heap} {h c T kd pl:Nat} {ct:Int} {k bo ch by_ it ma ni no n d:Nat} {ps:List Nat} {lab:Str} {a f p hid j:Nat} {base:V} {fl:List Fd} {x6 x7 x8:Option V} (P:dG M H1 h T kd pl d ps) (hcM:c ∈ M) (hn:H1[f]? = none∧H1[a]? = none) (hj:j < 4) (hl:fl.length = j)
  (R:RF M H1 h c T kd pl ct k bo ch by_ it ma ni no d ps lab a f p hid base fl H) {Q:Fl × Env→Heap→Prop}
  (q:∀ H' y x6,RF M H1 h c T kd pl ct k bo ch by_ it ma ni no d ps lab a f p hid base (fl ++ [y]) H'→Q (.next,[some (.ref h),some (.ref T),some (.ref pl),some (.str lab),some (.int 1),some (.ref a),x6,x7,some (.int j),none,none,none,none]) H') :
  W (aJ (aC tbl (n + 2)) aGa [some (.ref h),some (.ref T),some (.ref pl),some (.str lab),some (.int 1),some (.ref a),x6,x7,some (.int j),none,none,none,none] H) Q:=by
 have B:=R.bld
 have z:=R.fz
 have ty:=R.ty
 have fs:=R.fs
 have ok:=R.ok
 clear R
 have hne1:∀ {y x:Nat},H[x]? = none→y = h ∨ y = c ∨ y = T ∨ y = kd→y ≠ x:=fun {y x} hx hy w=>by
  obtain ⟨ns,pos,rest,seed,A⟩:=B.hand
  obtain ⟨o,ho⟩:=B.known.here
  subst w
  rcases hy with rfl | rfl | rfl | rfl
  ·rw [A.hand] at hx; first | exact nos hx | exact nof hx | cases hx
  ·rw [A.cells] at hx; first | exact nos hx | exact nof hx | cases hx
  ·rw [B.tys] at hx; first | exact nos hx | exact nof hx | cases hx
  ·rw [ho] at hx; first | exact nos hx | exact nof hx | cases hx
 have hplh:pl ≠ h:=fun w=>P.ne (by rw [w]; exact .head _)
 have hps:ps ≠ []:=fun w=>by obtain ⟨a,ha,_⟩:=P.rcd; rw [w] at ha; first | exact nos ha | exact nof ha | cases ha
 have hf4:=qPa j hj
 have s0:SL 1 ("f":Str):=aN (by kernel_rfl)
 have haM:∀ x,H1[x]? = none→x ∉ M:=fun x hx w=>by obtain ⟨o,ho⟩:=P.here x w; rw [ho] at hx; first | exact nos hx | exact nof hx | cases hx
 have hMh:h ∈ M:=P.sub h (.head _)
 have hah:a ≠ h:=fun w=>haM a hn.2 (w ▸ hMh)
 have hfh:f ≠ h:=fun w=>haM f hn.1 (w ▸ hMh)
 unfold aGa
 have hplat:H[pl]? = some (.list (ps.map V.ref)):=z _ _ P.ne P.at_
 refine bC ?_
 with_reducible refine tO ?_
 with_reducible refine aD (bR aB (jX (aA rfl) (by with_unfolding_all exact ⟨Int.natCast_nonneg _,dD (b:=10000000000) (lin [_] (.a .x (.n 1)) (.n 10000000000) [(.a .x (.n 1),.n 4)] rfl hj)⟩)) s0 (pI (i:=(j:Int)) (by with_unfolding_all exact ⟨Int.natCast_nonneg _,dD (b:=2000) (lin [_] (.a .x (.n 1)) (.n 2000) [(.a .x (.n 1),.n 4)] rfl hj)⟩)) rfl) ?_
 with_reducible refine aD aB ?_
 with_reducible refine cF (qK B (aA rfl) (fun _=>aA rfl) hplat hplh hps (Nat.le_trans P.len (aG rfl)) fun H2 t ht S2 B2=>?_)
 have hH2:H2 ≠ []:=fun w=>by
  have:=B2.tys
  rw [w] at this
  simp at this
 with_reducible refine aD aB (aK ⟨hH2,?_⟩)
 have hno:H2[H2.length]? = none:=pY H2
 with_reducible refine cEa (oF H2 _) fun H3 b3 g3=>⟨rfl,?_⟩
 have e3:Ext H2 H3:=((nA H2 _).but.trans b3).fresh hno
 have B3:=B2.ext e3
 have hno1:H[H2.length]? = none:=by
  clear b3 hH2 hplat s0 hps hplh B; by_cases w:H2.length = h
  ·obtain ⟨ns,pos,rest,seed,A⟩:=B2.hand
   have A:=A.hand
   rw [← w,hno] at A; cases A
  ·rw [← S2 _ w]; exact hno
 have hno0:H1[H2.length]? = none:=by
  clear b3 hno hH2 B2 hplat s0 hps hplh B; cases w:H1[H2.length]? with
  | none=>rfl
  | some o =>
   by_cases w2:H2.length ∈ [h,T,kd]
   ·exfalso
    rcases List.mem_cons.mp w2 with w2 | w2
    ·exact hne1 hno1 (.inl rfl) w2.symm
    ·rcases List.mem_cons.mp w2 with w2 | w2
     ·exact hne1 hno1 (.inr (.inr (.inl rfl))) w2.symm
     ·exact hne1 hno1 (.inr (.inr (.inr rfl))) (List.mem_singleton.mp w2).symm
   ·rw [z _ _ w2 w] at hno1; first | exact nos hno1 | exact nof hno1 | cases hno1
 have hoh:H2.length ≠ h:=fun w=>hne1 hno1 (.inl rfl) w.symm
 refine cW (fW (dO B3 (aA rfl) aB (by decide) fun H4 i hi S4 B4=>E_p aB (oSa (E_p (aA rfl) (cZ ((S4 _ hoh).trans g3) (aG rfl) fun H5 s5=>?_)))))
 have toH4:∀ (y:Nat) (o:O),y ≠ h→H[y]? = some o→H4[y]? = some o:=fun y o hy e=>(S4 y hy).trans (e3.get ((S2 y hy).trans e))
 have toH5:∀ (y:Nat) (o:O),y ≠ h→H[y]? = some o→H5[y]? = some o:=fun y o hy e=>s5.get (fun w=>by rw [w,hno1] at e; cases e) (toH4 y o hy e)
 have z4:Fz [h,T,kd] H1 H4:=(z.trans (S2.fz.trans e3.fz)).trans S4.fz
 have z5:Fz [h,T,kd] H1 H5:=fun y o hy e=>s5.get (fun w=>by rw [w,hno0] at e; cases e) (z4 y o hy e)
 have B5:Bld H5 h c T kd (ct + 1) (k + 1) bo ch by_ it ma ni no:=B4.keep fun y hy o e=>s5.get (fun w=>hne1 hno1 hy w) e
 have fs5:=toH5 f _ hfh fs
 have ty5:=toH5 a _ hah ty
 refine mQ (aF (aA rfl) ty5 rfl) (aA rfl) fs5 (by rw [List.length_map]; exact lin [_,_] .x (.n 1000) [(.x,.y),(.a .y (.n 1),.n 4)] rfl (Nat.le_of_eq hl) hj) fun H6 s6=>aX ?_
 have hff:f ≠ a:=fun w=>by rw [w,ty5] at fs5; first | exact nos fs5 | exact nof fs5 | cases fs5
 refine q H6 ⟨H2.length,"f" ++ (toString (j:Int):String),decide ((i:Int) < 2),t⟩ _ ⟨B5.keep fun y hy o e=>s6.get (fun w=>?_) e,?_,s6.get hff.symm ty5,by rw [s6.self,List.map_append]; rfl,fun x hx=>?_⟩
 ·clear hff ty5 B5 z4 toH4 B4 S4 hi hoh B3 e3 g3 b3 hno hH2 B2 S2 hplat hah s0 hps hplh hne1 ty z B q hl hj; subst w
  rcases hy with w | w | w | w
  ·exact hfh w
  ·exact haM _ hn.1 (w ▸ hcM)
  ·exact haM _ hn.1 (P.sub _ (by rw [w]; simp))
  ·exact haM _ hn.1 (P.sub _ (by rw [w]; simp))
 ·exact fun y o hy e=>s6.get (fun w=>by rw [w,hn.1] at e; cases e) (z5 y o hy e)
 ·clear hff ty5 B5 z5 z4 toH4 B4 S4 hi hoh B3 e3 g3 b3 hno hH2 B2 S2 hplat hfh hah s0 hps hplh hne1 ty z B q hl hj hn hcM P; rcases List.mem_append.mp hx with hx | hx
  ·obtain ⟨o1,o2,o3,o4⟩:=ok x hx
   have e5:=toH5 _ _ (fun w=>o4 (by rw [w]; exact hMh)) o1
   exact ⟨s6.get (fun w=>by rw [w,fs5] at e5; cases e5) e5,o2,o3,o4⟩
  ·rw [List.mem_singleton.mp hx]
   exact ⟨s6.get (fun w=>by have:=fs; rw [← w,hno1] at this; cases this) s5.self,hf4,ht,haM _ hno0⟩
end Mine.C
end
section
namespace Mine.C
open PySem (Expr Stmt Str)
theorem oV {cf:aU} {env:Env} {H:Heap} {e:IE} {Q:It→Heap→Prop} (h:W (aH cf env e H) fun v H1=>∃ m:Nat,v = .int m∧m ≤ 1000∧Q ⟨(List.range m).map fun i=>.int (i:Nat),.no⟩ H1):W (fJ cf env (.range e) H) Q :=
 oDa (h.mono fun v H1 ⟨m,hv,hm,q⟩=>by
  clear h; subst hv
  exact ⟨_,cR (p:=-1000 ≤ (m:Int)∧(m:Int) ≤ 1000) ⟨by exact Int.le_trans (by decide) (Int.natCast_nonneg _),by exact vX (lin [_] .x (.n 1000) [(.x,.n 1000)] rfl hm)⟩ _,q⟩)
theorem pG {step:V→Env→Heap→ExR} {Q:Fl × Env→Heap→Prop} (P:Nat→Env→Heap→Prop) {m:Nat} (hs:∀ j env H,j < m→P j env H→W (step (.int (j:Nat)) env H) fun x H1=>match x.1 with | .ret _=>Q x H1 | _=>P (j + 1) x.2 H1) (hq:∀ env H,P m env H→Q (.next,env) H) {env:Env} {H:Heap} (h0:P 0 env H) :
  W (gQ ⟨(List.range m).map fun i=>.int (i:Nat),.no⟩ step ((List.range m).map fun i=>.int (i:Nat)) env H) Q:=by
 refine lB (fun l env H=>∃ j,j ≤ m∧l = ((List.range m).drop j).map (fun i=>V.int (i:Nat))∧P j env H) (fun _ _ _ _=>rfl) ?_ ?_ _ _ _ ⟨0,Nat.zero_le _,rfl,h0⟩
 ·rintro v l env H ⟨j,hj,hl,hp⟩
  clear h0; by_cases hlt:j < m
  ·have hd:(List.range m).drop j = j :: (List.range m).drop (j + 1):=by
    rw [List.drop_eq_getElem_cons (by rw [List.length_range]; exact hlt),List.getElem_range]
   rw [hd] at hl
   clear hd; cases hl
   refine (hs j env H hlt hp).mono fun x H1 k=>?_
   obtain ⟨fl,e⟩:=x
   clear hs; cases fl with
   | next=>exact ⟨j + 1,hlt,rfl,k⟩
   | cont=>exact ⟨j + 1,hlt,rfl,k⟩
   | ret u=>exact k
  ·rw [List.drop_of_length_le (by rw [List.length_range]; exact lin [_,_] .x .y [(.x,.y)] rfl (Nat.le_of_not_lt hlt))] at hl
   clear hlt hs; cases hl
 ·rintro env H ⟨j,hj,hl,hp⟩
  have:j = m:=by
   have:=congrArg List.length hl
   rw [List.length_map,List.length_drop,List.length_range] at this
   simp only [List.length_nil] at this
   exact Nat.le_antisymm (lin [_,_] .x .y [(.x,.y)] rfl hj) (lin [_,_,_] .x .y [(.x,.a .z .y),(.z,.n 0)] rfl (dK _ _) (Nat.le_of_eq this.symm))
  clear hl hj h0 hs; subst this
  exact hq _ _ hp
noncomputable def uD:ISs:=(.cons (.for [8] false (.range (.call .pick (.cons (.loc 0) (.cons (.const (.int (4))) .nil)))) aGa) (.cons (.ret (.loc 5)) .nil))
theorem uMa {M:List Nat} {H0 H1 H:Heap} {h c T kd pl:Nat} {ct:Int} {k bo ch by_ it ma ni no n d:Nat} {ps:List Nat} {lab:Str} {a f p hid:Nat} {base:V} {x6 x7 x8:Option V} (P:dG M H1 h T kd pl d ps) (hcM:c ∈ M) (hn:H1[f]? = none∧H1[a]? = none) (hct:7 ≤ ct) (z:Fz [h,T,kd] H0 H1) (hH:H0[a]? = none)
  (hb:base = .none ∨ ∃ b,base = .ref b∧b ∈ ps) (R:RF M H1 h c T kd pl ct k bo ch by_ it ma ni no d ps lab a f p hid base [] H) :
  W (aJ (aC tbl (n + 2)) uD [some (.ref h),some (.ref T),some (.ref pl),some (.str lab),some (.int 1),some (.ref a),x6,x7,x8,none,none,none,none] H) (Out fun v H'=>∃ a,v = .ref a∧Made M H0 H' h c T kd ct k bo ch by_ it ma ni no d ps lab a):=by
 unfold uD
 with_reducible refine cY (oV (dO R.bld (aA (by with_unfolding_all rfl)) aB (by decide) fun H2 m hm S2 B2=>⟨m,rfl,by with_unfolding_all exact lin [_] .x (.n 1000) [(.a .x (.n 1),.n 4)] rfl (fX hm),?_⟩))
 have haM:∀ x,H1[x]? = none→x ∉ M:=fun x hx w=>by obtain ⟨o,ho⟩:=P.here x w; rw [ho] at hx; first | exact nos hx | exact nof hx | cases hx
 have hMh:h ∈ M:=P.sub h (.head _)
 have hah:a ≠ h:=fun w=>haM a hn.2 (w ▸ hMh)
 have hfh:f ≠ h:=fun w=>haM f hn.1 (w ▸ hMh)
 have R2:RF M H1 h c T kd pl ct k bo ch by_ it ma ni no d ps lab a f p hid base [] H2:=⟨B2,R.fz.trans S2.fz,(S2 a hah).trans R.ty,(S2 f hfh).trans R.fs,fun x hx=>nomatch hx⟩
 with_reducible refine pG (fun j env H'=>∃ fl x6 x8,fl.length = j∧env = [some (.ref h),some (.ref T),some (.ref pl),some (.str lab),some (.int 1),some (.ref a),x6,x7,x8,none,none,none,none]∧RF M H1 h c T kd pl ct k bo ch by_ it ma ni no d ps lab a f p hid base fl H') ?_ ?_ ⟨[],x6,x8,List.length_nil,by with_unfolding_all rfl,R2⟩
 ·rintro j env H' hj ⟨fl,y6,y8,hl,rfl,R'⟩
  with_reducible refine dM (env1:=[some (.ref h),some (.ref T),some (.ref pl),some (.str lab),some (.int 1),some (.ref a),y6,x7,some (.int j),none,none,none,none]) (by with_unfolding_all rfl) ?_
  with_reducible refine nZa (x8:=none) P hcM hn (by with_unfolding_all exact lin [_,_] (.a .x (.n 1)) (.n 4) [(.a .x (.n 1),.y),(.a .y (.n 1),.n 4)] rfl hj (fX hm)) hl R' fun H3 y z6 R3=>?_
  exact ⟨fl ++ [y],z6,_,by rw [List.length_append,hl]; rfl,rfl,R3⟩
 ·rintro env H' ⟨fl,y6,y8,hl,rfl,R'⟩
  refine aZ (cC (aA rfl) ⟨a,rfl,z.trans R'.fz,⟨_,_,by exact zA_,Nat.le_refl _,R'.bld,.inr ⟨hH,_,_,_,_,_,_,_,_,R'.ty,zB_,Int.le_refl _⟩⟩,.inr ?_⟩)
  have gt:∀ b ∈ ps,GT (mask M H') d b:=fun b hb=>(P.gt b hb).xj (R'.fz.sub P.sub).mask
  refine .rcd (dN (haM a hn.2) R'.ty) (by exact zC_ hct) ?_ (dN (haM f hn.1) R'.fs) (by exact lin [_,_] .x (.n 3) [(.x,.y),(.a .y (.n 1),.n 4)] rfl (Nat.le_of_eq hl) (fX hm)) fun x hx=>?_
  ·exact hb.imp_right fun ⟨b,h1,h2⟩=>⟨b,h1,gt b h2⟩
  ·obtain ⟨o1,o2,o3,o4⟩:=R'.ok x hx
   exact ⟨dN o4 o1,o2,gt _ o3⟩
end Mine.C
end
section
namespace Mine.C
open PySem (Expr Stmt Str)
theorem nFa {M:List Nat} {H H1:Heap} {h c T kd k bo ch by_ it ma ni no n pl d:Nat} {ct:Int} {ps:List Nat} {lab:Str} (hcM:c ∈ M) (B:Bld H1 h c T kd ct k bo ch by_ it ma ni no) (hk:k ≤ 900) (P:dG M H1 h T kd pl d ps) (z:Fz [h,T,kd] H H1) (hH:∀ b:Nat,H1[b]? = none→H[b]? = none) :
  W (aJ (aC tbl (n + 2)) (.cons (.setl 5 (.ometh .new .tys (.loc 1) (.cons (.const (.str ("record"))) (.cons (.const (.int (8))) (.cons (.const (.str ("M"))) (.cons (.loc 3) .nil))))))
   (.cons (.setl 7 (.comp [9] false (.of (.loc 2)) (.cons (.val (.cmp .Eq (.attr (.loc 9) 1) (.const (.str ("record"))))) .nil) (.loc 9)))
   (.cons (.seta (.loc 5) 3 (.ite (.val (.cmp .Eq (.call .pick (.cons (.loc 0) (.cons (.const (.int (2))) .nil))) (.const (.int (1))))) (.sub (.loc 7) (.call .pick (.cons (.loc 0) (.cons (.blt .len (.cons (.loc 7) .nil)) .nil)))) (.const (.none)))) uD)))
   [some (.ref h),some (.ref T),some (.ref pl),some (.str lab),some (.int 1),none,none,none,none,none,none,none,none] H1)
   (Out fun v H'=>∃ a,v = .ref a∧Made M H H' h c T kd ct k bo ch by_ it ma ni no d ps lab a):=by
 obtain ⟨n1,n2,n3,n4,n5,n6⟩:=B.ne
 have hnew:=new_ (n:=n) (form:="record") (size:=8) (mod:="M") (lab:=lab) (vs:=[.ref T,.str "record",.int 8,.str "M",.str lab]) B.tys rfl (fun _=>rfl) (aG rfl) B.known (by exact lin [_] .x (.n 1000) [(.x,.n 900)] rfl hk) n6 rfl
 with_reducible refine bC (fZ (E_p (aA (by with_unfolding_all rfl)) ⟨k_inst B.tys,aD aB (aD aB (aD aB (aD (aA (by with_unfolding_all rfl)) (aK (hnew.mono fun v H2 N=>?_)))))⟩))
 clear hnew n6 n5 n4 n3 n2 n1 hk; obtain ⟨a,rfl,N⟩:=N
 have B2:=B.new N
 obtain ⟨f,p,hid,t1,t2,t3,t4,t5,t6⟩:=N.ty
 have na1:H1[a]? = none:=N.fresh
 have z2:Fz [h,T,kd] H1 H2:=N.fz.three
 have haM:∀ x,H1[x]? = none→x ∉ M:=fun x hx w=>by obtain ⟨o,ho⟩:=P.here x w; rw [ho] at hx; first | exact nos hx | exact nof hx | cases hx
 have hMh:h ∈ M:=P.sub h (.head _)
 have P2at:H2[pl]? = some (.list (ps.map V.ref)):=z2 _ _ P.ne P.at_
 have hty2:∀ b ∈ ps,∃ num,dB H2 b num:=fun b hb=>by
  obtain ⟨num,f',s,b',l,x,p',m,q,i,e⟩:=lY (P.gt b hb)
  clear t6 t5 t3 N; obtain ⟨hm,e⟩:=dW e rfl
  exact ⟨num,f',s,b',l,x,p',m,q,i,z2 _ _ (fun w=>hm (P.sub _ w)) e⟩
 with_reducible refine bC (hQa (aA (by with_unfolding_all rfl)) P2at (Nat.le_trans P.len (aG rfl)) hty2 (fun v=>by with_unfolding_all rfl) fun rb H3 x3 g3 m3=>?_)
 have B3:=B2.ext x3
 have hct:=B.ct
 have hah:a ≠ h:=fun w=>haM a na1 (w ▸ hMh)
 have hfh:f ≠ h:=fun w=>haM f t4 (w ▸ hMh)
 have hfa:f ≠ a:=fun w=>by rw [w,t1] at t2; first | exact nos t2 | exact nof t2 | cases t2
 have hrs:ps.filter (fG H2) ≠ []:=fun q=>by
  obtain ⟨b,hb,hr⟩:=P.rcd
  obtain ⟨num,f',s,b',l,x,p',m,q',i,e⟩:=lY (P.gt b hb)
  clear hty2 P2at hMh t6 t5 t3 N B; obtain ⟨hm,e⟩:=dW e rfl
  have e2:=z2 _ _ (fun w=>hm (P.sub _ w)) e
  have:b ∈ ps.filter (fG H2):=List.mem_filter.mpr ⟨hb,by
   unfold fG at hr ⊢
   rw [cT e rfl] at hr
   rw [cT e2 rfl]
   exact hr⟩
  rw [q] at this; first | exact nos this | exact nof this | cases this
 have hrbh:rb ≠ h:=fun w=>by
  obtain ⟨ns,pos,rest,seed,A⟩:=B2.hand
  have:=A.hand
  rw [← w,m3] at this; first | exact nos this | exact nof this | cases this
 have fin:∀ (base:V) (H5:Heap),(base = .none ∨ ∃ b,base = .ref b∧b ∈ ps)→Bld H5 h c T kd (ct + 1) (k + 1) bo ch by_ it ma ni no→Fz [h,T,kd] H1 H5→H5[a]? = some (tyF (ct + 1) "record" 8 .none 0 f p "M" lab hid)→H5[f]? = some (.list []) →
   ∀ H6,bQ H5 a (tyF (ct + 1) "record" 8 base 0 f p "M" lab hid) H6→W (aJ (aC tbl (n + 2)) uD [some (.ref h),some (.ref T),some (.ref pl),some (.str lab),some (.int 1),some (.ref a),none,some (.ref rb),none,none,none,none,none] H6) (Out fun v H'=>∃ a,v = .ref a∧Made M H H' h c T kd ct k bo ch by_ it ma ni no d ps lab a):=fun base H5 hb B5 z5 e5 f5 H6 s6=>by
  have hne:∀ y:Nat,y = h ∨ y = c ∨ y = T ∨ y = kd→y ≠ a:=fun y hy w=>by
   clear m3 hty2 P2at hMh t6 t5 t3 B2 N B; subst w
   rcases hy with w | w | w | w
   ·exact hah w
   ·exact haM _ na1 (w ▸ hcM)
   ·exact haM _ na1 (P.sub _ (by rw [w]; simp))
   ·exact haM _ na1 (P.sub _ (by rw [w]; simp))
  exact uMa P hcM ⟨t4,na1⟩ hct z (hH a na1) hb ⟨B5.keep fun y hy o e=>s6.get (hne y hy) e,fun y o hy e=>s6.get (fun w=>by rw [w,na1] at e; cases e) (z5 y o hy e),s6.self,s6.get hfa f5,fun x hx=>nomatch hx⟩
 have z3:Fz [h,T,kd] H1 H3:=z2.trans x3.fz
 with_reducible refine cW (nQ (fK (fW (dO B3 (aA (by with_unfolding_all rfl)) aB (by decide) fun H4 i hi S4 B4=>E_p aB (zF (iC ⟨fun _=>?_,fun _=>?_⟩))))))
 ·have g4:=(S4 rb hrbh).trans g3
  with_reducible refine qK B4 (aA (by with_unfolding_all rfl)) (fun _=>aA (by with_unfolding_all rfl)) g4 hrbh hrs (Nat.le_trans (List.length_filter_le _ _) (Nat.le_trans P.len (aG rfl))) fun H5 b hb S5 B5=>?_
  have e5:=(S5 a hah).trans ((S4 a hah).trans (x3.get t1))
  with_reducible refine E_p (aA (by with_unfolding_all rfl)) (cZ e5 (aG rfl) fun H6 s6=>?_)
  exact fin (.ref b) H5 (.inr ⟨b,rfl,(List.mem_filter.mp hb).1⟩) B5 ((z3.trans S4.fz).trans S5.fz) e5 ((S5 f hfh).trans ((S4 f hfh).trans (x3.get t2))) H6 s6
 ·have e4:=(S4 a hah).trans (x3.get t1)
  with_reducible refine E_p aB (E_p (aA (by with_unfolding_all rfl)) (cZ e4 (aG rfl) fun H6 s6=>?_))
  exact fin .none H4 (.inl rfl) B4 (z3.trans S4.fz) e4 ((S4 f hfh).trans (x3.get t2)) H6 s6
end Mine.C
end
section
namespace Mine.C
open PySem (Expr Stmt Str)
theorem uSa {M:List Nat} {H:Heap} {h c T kd k bo ch by_ it ma ni no n pl d:Nat} {ct:Int} {ps:List Nat} {lab:Str} (hcM:c ∈ M) (B:Bld H h c T kd ct k bo ch by_ it ma ni no) (hk:k ≤ 900) (P:dG M H h T kd pl d ps) (hM:∀ x ∈ M,∀ H1,fM H h H1→pU H1 h c→∃ o,H1[x]? = some o) :
  W (aC tbl (n + 3) .lmade [.ref h,.ref T,.ref pl,.str lab] H) fun v H'=>∃ a,v = .ref a∧Made M H H' h c T kd ct k bo ch by_ it ma ni no d ps lab a:=by
 refine bK (env:=[some (.ref h),some (.ref T),some (.ref pl),some (.str lab),none,none,none,none,none,none,none,none,none]) rfl ?_
 show W (aJ _ xW _ H) _
 unfold xW
 with_reducible refine bC (dO B (aA (by with_unfolding_all rfl)) aB (by decide) fun H1 i hi S1 B1=>?_)
 have z1:Fz [h,T,kd] H H1:=S1.fz
 have P1:dG M H1 h T kd pl d ps:=P.fz z1 fun x hx=>hM x hx H1 S1 B1.hand
 have hH:∀ b:Nat,H1[b]? = none→H[b]? = none:=fun b hb=>by
  clear hM B; by_cases w:b = h
  ·obtain ⟨ns,pos,rest,seed,A⟩:=B1.hand
   rw [w,A.hand] at hb; first | exact nos hb | exact nof hb | cases hb
  ·rw [← S1 b w]; exact hb
 have hplh:pl ≠ h:=fun w=>P.ne (by rw [w]; exact .head _)
 have hps:ps ≠ []:=fun w=>by obtain ⟨a,ha,_⟩:=P.rcd; rw [w] at ha; first | exact nos ha | exact nof ha | cases ha
 have leave:∀ {ss r:ISs} {env:Env} {Hx:Heap} {X:Nat→Heap→Prop},W (aJ (aC tbl (n + 2)) ss env Hx) (Out fun v H'=>∃ a,v = .ref a∧X a H')→W (aJ (aC tbl (n + 2)) ss env Hx) (Aft (aC tbl (n + 2)) r (Out fun v H'=>∃ a,v = .ref a∧X a H')):=fun hw=>hw.mono fun x H' kx=>by
  obtain ⟨fl,e⟩:=x
  clear hw S1 hM B; cases fl with
  | next=>obtain ⟨a,q,_⟩:=(show ∃ a,V.none = .ref a∧_ from kx); first | exact nos q | exact nof q | cases q
  | cont=>exact (show False from kx).elim
  | ret v=>exact kx
 have cmp:∀ (b:Int),PT (aC tbl (n + 2)) [some (.ref h),some (.ref T),some (.ref pl),some (.str lab),some (.int i),none,none,none,none,none,none,none,none] H1 (.val (.cmp .Eq (.loc 4) (.const (.int b)))) (decide ((i:Int) = b)):=fun b=>aO (aR (aA rfl) aB rfl)
 have c0:=cmp 0
 have c1:=cmp 1
 clear cmp S1 hM B; by_cases h0:i = 0
 ·rw [decide_eq_true (by exact qN (b:=0) h0)] at c0
  refine cJ c0 ?_
  with_reducible refine cM (qK B1 (aA (by with_unfolding_all rfl)) (fun _=>aA (by with_unfolding_all rfl)) P1.at_ hplh hps (Nat.le_trans P.len (aG rfl)) fun H2 a ha S2 B2=>?_)
  exact ⟨a,rfl,z1.trans S2.fz,⟨ct,k,Int.le_refl _,Nat.le_succ _,B2,.inl ha⟩,.inl ((P.gt a ha).xj ((z1.trans S2.fz).sub P.sub).mask)⟩
 ·rw [decide_eq_false (by exact fun q=>h0 (oO (b:=0) q))] at c0
  refine bH c0 (bF ?_)
  clear c0 hps hplh P; by_cases h1:i = 1
  ·rw [decide_eq_true (by exact qN (b:=1) h1)] at c1
   subst h1
   exact cJ c1 (leave (nFa hcM B1 hk P1 z1 hH))
  ·rw [decide_eq_false (by exact fun q=>h1 (oO (b:=1) q))] at c1
   exact bH c1 (bF (kKa (by exact d4a _ (fX (b:=4) hi) h0 h1) B1 hk P1 z1 hH))
end Mine.C
end
section
namespace Mine.C
open PySem (Expr Stmt Str)
noncomputable def aSa (m:Int):List Nat:=(List.range 8).filter (bit m)
noncomputable def oX (acc:List (Nat × Nat)) (r:Nat × Nat):List Nat→List (Nat × Nat)
 | []=>acc ++ [r]
 | x :: xs=>if (r.2:Int) = (x:Int) - 1 then oX acc (r.1,x) xs else oX (acc ++ [r]) (x,x) xs
noncomputable def zH:List Nat→List (Nat × Nat)
 | []=>[]
 | x :: xs=>oX [] (x,x) xs
theorem nIa:∀ n:Nat,n < 256→zH (aSa (n:Int)) = cP (n:Int) 33 0:=by decide +kernel
end Mine.C
end
section
namespace Mine.C
open PySem (Expr Stmt Str)
theorem string_ {H:Heap} {h c T kd k bo ch by_ it ma ni no n:Nat} {ct:Int} (B:Bld H h c T kd ct k bo ch by_ it ma ni no) (hk:k ≤ 900) :
  W (aC tbl (n + 3) .string [.ref T,.int 3] H) fun v H'=>∃ a f p hid,v = .ref a∧H[a]? = none∧H'[a]? = some (tyF (ct + 1) "string" 3 (.ref ch) 3 f p "" "" hid)∧Bld H' h c T kd (ct + 1) (k + 1) bo ch by_ it ma ni no∧Fz [h,T,kd] H H':=by
 obtain ⟨n1,n2,n3,n4,n5,n6⟩:=B.ne
 have hnew:=new_ (n:=n) (form:="string") (size:=3) (mod:="") (lab:="") (vs:=[.ref T,.str "string",.int 3]) B.tys rfl (fun _=>rfl) (aG rfl) B.known (by exact lin [_] .x (.n 1000) [(.x,.n 900)] rfl hk) n6 rfl
 have hne:∀ {x:Nat},H[x]? = none→∀ y:Nat,y = h ∨ y = c ∨ y = T ∨ y = kd→y ≠ x:=fun {x} hx y hy q=>by
  obtain ⟨ns,pos,rest,seed,A⟩:=B.hand
  obtain ⟨o,ho⟩:=B.known.here
  clear n6 n5 n4 n3 n2 n1 hk; subst q
  rcases hy with rfl | rfl | rfl | rfl
  ·rw [A.hand] at hx; first | exact nos hx | exact nof hx | cases hx
  ·rw [A.cells] at hx; first | exact nos hx | exact nof hx | cases hx
  ·rw [B.tys] at hx; first | exact nos hx | exact nof hx | cases hx
  ·rw [ho] at hx; first | exact nos hx | exact nof hx | cases hx
 refine bK (env:=[some (.ref T),some (.int 3),none,none,none,none,none]) rfl ?_
 show W (aJ _ zR _ H) _
 unfold zR
 with_reducible refine bC (fZ (E_p (aA (by with_unfolding_all rfl)) ⟨k_inst B.tys,aD aB (aD (aA (by with_unfolding_all rfl)) (aK (hnew.mono fun v H2 N=>?_)))⟩))
 clear hnew n6 n5 n4 n3 n2 n1 hk; obtain ⟨a,rfl,N⟩:=N
 have B2:=B.new N
 obtain ⟨f,p,hid,t1,t2,t3,t4,t5,t6⟩:=N.ty
 have hna:=hne N.fresh
 refine cB (aA rfl) (aA rfl) t1 (aG rfl) fun H3 s3=>?_
 have B3:Bld H3 h c T kd (ct + 1) (k + 1) bo ch by_ it ma ni no:=B2.keep fun y hy o e=>s3.get (hna y hy) e
 refine cB (aF (aA rfl) B3.tys rfl) (aA rfl) s3.self (aG rfl) fun H4 s4=>?_
 have z4:Fz [h,T,kd] H H4:=fun y o hy e=>s4.get (fun w=>by rw [w,N.fresh] at e; cases e) (s3.get (fun w=>by rw [w,N.fresh] at e; cases e) (N.fz.three y o hy e))
 exact cC (aA rfl) ⟨a,f,p,hid,rfl,N.fresh,s4.self,B3.keep fun y hy o e=>s4.get (hna y hy) e,z4⟩
end Mine.C
end
section
namespace Mine.C
open PySem (Expr Stmt Str)
noncomputable def eX (H:Heap):List Nat→List (Nat × Nat)→Prop
 | [],[]=>True
 | a :: as,r :: rs=>H[a]? = some (.tuple [.int r.1,.int r.2])∧eX H as rs
 | _,_=>False
theorem eX.but {f:Nat} {vs:List V} {H H':Heap} (hf:H[f]? = some (.list vs)) (k:But f H H'):∀ {as:List Nat} {rs:List (Nat × Nat)},eX H as rs→eX H' as rs
 | [],[],_=>trivial
 | _ :: _,_ :: _,h=>⟨k _ _ (fun q=>by have:=h.1; rw [q,hf] at this; cases this) h.1,eX.but hf k h.2⟩
 | [],_ :: _,h=>h
 | _ :: _,[],h=>h
theorem eX.snoc {H:Heap} {a:Nat} {r:Nat × Nat} (h:H[a]? = some (.tuple [.int r.1,.int r.2])):∀ {as:List Nat} {rs:List (Nat × Nat)},eX H as rs→eX H (as ++ [a]) (rs ++ [r])
 | [],[],_=>⟨h,trivial⟩
 | _ :: _,_ :: _,k=>⟨k.1,eX.snoc h k.2⟩
 | [],_ :: _,k=>k.elim
 | _ :: _,[],k=>k.elim
noncomputable def lsE (h T o f r:Nat) (x4:Option V):Env:=[some (.ref h),some (.ref T),some (.ref o),some (.int 3),x4,some (.ref f),some (.ref r),none,none,none,none]
inductive LS (Hs:Heap) (h T o f r:Nat) (all:List (Nat × Nat)) (l:List V) (env:Env) (H:Heap):Prop where
 | first {xs:List Nat} {x4:Option V}:env = lsE h T o f r x4→l = xs.map (fun x=>.int (x:Nat))→(∀ x ∈ xs,x < 8)→Ext Hs H→H[r]? = some (.list [])→xs.length ≤ 8→zH xs = all→LS Hs h T o f r all l env H
 | on {xs:List Nat} {x4:Option V} {as:List Nat} {a p q:Nat} {acc:List (Nat × Nat)}:env = lsE h T o f r x4→l = xs.map (fun x=>.int (x:Nat))→(∀ x ∈ xs,x < 8)→Ext Hs H→H[r]? = some (.list (as.map V.ref ++ [.ref a])) →
   eX H as acc→H[a]? = some (.tuple [.int p,.int q])→(p < 8∧q < 8∧∀ z ∈ acc,z.1 < 8∧z.2 < 8)→as.length + xs.length ≤ 7→oX acc (p,q) xs = all→LS Hs h T o f r all l env H
theorem LS.ext {Hs H:Heap} {h T o f r:Nat} {all:List (Nat × Nat)} {l:List V} {env:Env} (x:LS Hs h T o f r all l env H):Ext Hs H:=by
 cases x with
 | first _ _ _ e _ _ _=>exact e
 | on _ _ _ e _ _ _ _ _ _=>exact e
noncomputable def gYa:ISs:=(.cons (.ite (.and (.val (.cmp .NotEq (.loc 6) (.list .nil))) (.val (.cmp .Eq (.sub (.sub (.loc 6) (.neg (.const (.int (1))))) (.const (.int (1)))) (.bin .Sub (.loc 4) (.const (.int (1))))))) (.cons (.seti (.loc 6) (.neg (.const (.int (1)))) (.tuple (.cons (.sub (.sub (.loc 6) (.neg (.const (.int (1))))) (.const (.int (0)))) (.cons (.loc 4) .nil))))
 .nil) (.cons (.expr (.bmeth .append (.loc 6) (.cons (.tuple (.cons (.loc 4) (.cons (.loc 4) .nil))) .nil)))
 .nil))
 .nil)
theorem fAa {cf:aU} {Hs H:Heap} {h T o f r x:Nat} {all:List (Nat × Nat)} {vs l:List V} {env:Env} {Q:Fl × Env→Heap→Prop} (he:env = lsE h T o f r (some (.int x))) (hn:Hs[r]? = none) (e:Ext Hs H) (g:H[r]? = some (.list vs)) (hl:vs.length ≤ 8)
  (q:∀ H' a,Ext Hs H'→But r H H'→H'[r]? = some (.list (vs ++ [.ref a]))→H'[a]? = some (.tuple [.int x,.int x])→LS Hs h T o f r all l env H') :
  W (aJ cf (.cons (.expr (.bmeth .append (.loc 6) (.cons (.tuple (.cons (.loc 4) (.cons (.loc 4) .nil))) .nil))) .nil) env H) (Aft cf .nil fun x H1=>match x.1 with | .ret _=>Q x H1 | _=>LS Hs h T o f r all l x.2 H1):=by
 have h4:(env[4]?).join = some (.int x):=by rw [he]; rfl
 have h6:(env[6]?).join = some (.ref r):=by rw [he]; rfl
 clear he
 refine iK (fO (E_p (aA h6) ⟨lU (.inl rfl) g,cF (fV (aD (aA h4) (aD (aA h4) (aK (iM (aG rfl) fun a H1 x2 g2 m2=>aK ?_)))))⟩))
 have hne:a ≠ r:=(bV g m2).symm
 exact nY (x2.get g) (Nat.le_trans hl (aG rfl)) fun H2 s2=>aX (aZ (aX (q H2 a ((e.trans x2).set s2 hn) (x2.but.trans s2.but) s2.self (s2.get hne g2))))
theorem uDa {Hs H:Heap} {h T o f r:Nat} {all:List (Nat × Nat)} {cf:aU} {v:V} {l:List V} {env:Env} {Q:Fl × Env→Heap→Prop} (hn:Hs[r]? = none) (x:LS Hs h T o f r all (v :: l) env H) :
  W (lV (fun v env H=>dX [4] false v env H) (aJ cf gYa) v env H) fun x H1=>match x.1 with | .ret _=>Q x H1 | _=>LS Hs h T o f r all l x.2 H1:=by
 refine cps fun G kG=>?_
 cases x with
 | @first xs x4 he hl hx hE hf hle hg =>
  subst he
  cases xs with
  | nil=>first | exact nos hl | exact nof hl | cases hl
  | cons x xs =>
  cases hl
  refine kG (dM (env1:=lsE h T o f r (some (.int x))) rfl (fH (jN (pR (aA rfl) hf fun H1 e1=>⟨fun q=>(nomatch q),fun _=>⟨fun q=>(nomatch q),fun _=>?_⟩⟩))))
  exact fAa rfl hn (hE.trans e1) (e1.get hf) (aG rfl) fun H2 a e2 b2 g2 t2=>.on (as:=[]) (acc:=[]) rfl rfl (fun y hy=>hx y (.tail _ hy)) e2 g2 trivial t2 ⟨hx x (.head _),hx x (.head _),fun z hz=>nomatch hz⟩ (by rw [List.length_cons] at hle; simp only [List.length_nil]; exact lin [_] (.a (.n 0) .x) (.n 7) [(.a .x (.n 1),.n 8)] rfl hle) hg
 | @on xs x4 as a p q acc he hl hx hE hf hps ha hb hle hg =>
  subst he
  cases xs with
  | nil=>first | exact nos hl | exact nof hl | cases hl
  | cons x xs =>
  cases hl
  rw [List.length_cons] at hle
  have hx8:=hx x (.head _)
  refine kG (dM (env1:=lsE h T o f r (some (.int x))) rfl (fH (jN (pR (aA rfl) hf fun H1 e1=>⟨fun _=>?_,fun w=>by simp at w⟩))))
  have f1:=e1.get hf
  have a1:=e1.get ha
  have hra:a ≠ r:=fun w=>by rw [w,hf] at ha; first | exact nos ha | exact nof ha | cases ha
  have hla:PE cf (lsE h T o f r (some (.int x))) H1 (.sub (.loc 6) (.neg (.const (.int (1))))) (.ref a):=cQ (aA rfl) (jE aB) f1 rF
  refine T_p (b:=decide ((q:Int) = (x:Int) - 1)) (aO (aR (nG hla aB a1 rfl) (dJ (aA rfl) aB rfl) rfl)) ⟨fun hv=>?_,fun hv=>?_⟩
  ·have hg':oX acc (p,x) xs = all:=by rw [← hg]; exact (if_pos (of_decide_eq_true hv)).symm
   refine lD (fV (aD (nG hla aB a1 rfl) (aD (aA rfl) (aK (iM (aG rfl) fun b H2 x2 g2 m2=>?_)))))
   refine E_p (aA rfl) (E_p (jE aB) (zV (x2.get f1) cWa fun H3 s3=>aX (aZ (aX ?_))))
   rw [bLa] at s3
   exact .on (as:=as) (acc:=acc) rfl rfl (fun y hy=>hx y (.tail _ hy)) ((hE.trans (e1.trans x2)).set s3 hn) s3.self (hps.but hf (e1.but.trans (x2.but.trans s3.but))) (s3.get (bV f1 m2).symm g2) ⟨hb.1,hx8,hb.2.2⟩ (by exact lin [_,_] (.a .x .y) (.n 7) [(.a .x (.a .y (.n 1)),.n 7)] rfl hle) hg'
  ·have hg':oX (acc ++ [(p,q)]) (x,x) xs = all:=by rw [← hg]; exact (if_neg (of_decide_eq_false hv)).symm
   refine fAa rfl hn (hE.trans e1) f1 (by simp only [List.length_append,List.length_map,List.length_cons,List.length_nil]; exact lin [_,_] (.a .x (.a (.n 0) (.n 1))) (.n 8) [(.a .x (.a .y (.n 1)),.n 7)] rfl hle) fun H2 b e2 b2 g2 t2=>?_
   exact .on (as:=as ++ [a]) (acc:=acc ++ [(p,q)]) rfl rfl (fun y hy=>hx y (.tail _ hy)) e2 (by rw [g2,List.map_append]; rfl) ((hps.but hf (e1.but.trans b2)).snoc (b2 _ _ hra a1)) t2
    ⟨hx8,hx8,fun z hz=>(List.mem_append.mp hz).elim (hb.2.2 z) fun hz=>by rw [List.mem_singleton.mp hz]; exact ⟨hb.1,hb.2.1⟩⟩ (by simp only [List.length_append,List.length_cons,List.length_nil]; exact lin [_,_] (.a (.a .x (.a (.n 0) (.n 1))) .y) (.n 7) [(.a .x (.a .y (.n 1)),.n 7)] rfl hle) hg'
end Mine.C
end
section
namespace Mine.C
open PySem (Expr Stmt Str)
theorem eX.len {H:Heap}:∀ {as:List Nat} {rs:List (Nat × Nat)},eX H as rs→as.length = rs.length
 | [],[],_=>rfl
 | _ :: _,_ :: _,h=>congrArg (· + 1) (eX.len h.2)
 | [],_ :: _,h=>h.elim
 | _ :: _,[],h=>h.elim
theorem qDa {n:Nat} {p:Nat→Bool}:(((List.range n).map fun i=>V.int (i:Nat)).filter fun v=>p (intOf v).toNat).map id = ((List.range n).filter p).map fun i=>V.int (i:Nat):=by
 rw [List.map_id,List.filter_map]; rfl
theorem nEa {cf:aU} {Hs:Heap} {h T o f r:Nat} {x4:Option V} {H:Heap} {as:List Nat} {rs:List (Nat × Nat)} {Q:V→Heap→Prop} (hr:H[r]? = some (.list (as.map V.ref))) (hp:eX H as rs) (hl:rs.length ≤ 8) (hx:∀ z ∈ rs,z.1 < 8∧z.2 < 8)
  (q:∀ b H1,Ext H H1→H1[b]? = some (.list ((rs.map dR).map V.str))→Q (.ref b) H1) :
  W (aH cf (lsE h T o f r x4) (.comp [7,8] true (.of (.loc 6)) .nil (.ite (.val (.cmp .Eq (.loc 7) (.loc 8))) (.blt .str (.cons (.loc 7) .nil)) (.bin .Add (.bin .Add (.blt .str (.cons (.loc 7) .nil)) (.const (.str ("..")))) (.blt .str (.cons (.loc 8) .nil))))) H) Q:=by
 let g:V→V:=fun v=>match oG H v with
  | some [.int a,.int b]=>.str (dR (a.toNat,b.toNat))
  | _=>.none
 have key:∀ {as:List Nat} {rs:List (Nat × Nat)},eX H as rs→(as.map V.ref).map g = (rs.map dR).map V.str∧∀ v ∈ as.map V.ref,∃ z ∈ rs,∃ a,v = .ref a∧H[a]? = some (.tuple [.int z.1,.int z.2]):=by
  intro as
  induction as with
  | nil=>intro rs hp; cases rs with
   | nil=>exact ⟨rfl,fun v hv=>nomatch hv⟩
   | cons _ _=>exact hp.elim
  | cons a as ih=>intro rs hp; cases rs with
   | nil=>exact hp.elim
   | cons z rs =>
    obtain ⟨i1,i2⟩:=ih hp.2
    have hg:g (.ref a) = .str (dR z):=by
     show (match jG H[a]? with | some [.int a,.int b]=>V.str (dR (a.toNat,b.toNat)) | _=>.none) = _
     rw [hp.1]; rfl
    refine ⟨by rw [List.map_cons,List.map_cons,List.map_cons,List.map_cons,i1,hg],fun v hv=>?_⟩
    rcases List.mem_cons.mp hv with hv | hv
    ·exact ⟨z,.head _,a,hv,hp.1⟩
    ·obtain ⟨w,hw,b,h1,h2⟩:=i2 v hv
     exact ⟨w,.tail _ hw,b,h1,h2⟩
 obtain ⟨k1,k2⟩:=key hp
 refine nC (p:=fun _=>true) (g:=g) (iJ (aA rfl) hr) (cO hr) (by show (as.map _).length ≤ _; rw [List.length_map,hp.len]; exact lin [_] .x (.n 1000) [(.x,.n 8)] rfl hl) (fun v hv=>?_) fun b H1 x1 g1 m1=>q b H1 x1 ?_
 ·obtain ⟨z,hz,a,rfl,e⟩:=k2 v hv
  have hg:g (.ref a) = .str (dR z):=by
   show (match jG H[a]? with | some [.int a,.int b]=>V.str (dR (a.toNat,b.toNat)) | _=>.none) = _
   rw [e]; rfl
  refine ⟨[some (.ref h),some (.ref T),some (.ref o),some (.int 3),x4,some (.ref f),some (.ref r),some (.int z.1),some (.int z.2),none,none],by show (jG H[a]?).bind _ = _; rw [e]; rfl,rfl,fun _=>?_⟩
  rw [hg]
  exact dPa (aA rfl) (aA rfl) ⟨by have:=(hx z hz).1; exact lin [_] (.a .x (.n 1)) (.n 2000) [(.a .x (.n 1),.n 8)] rfl this,by have:=(hx z hz).2; exact lin [_] (.a .x (.n 1)) (.n 2000) [(.a .x (.n 1),.n 8)] rfl this⟩
 ·rw [g1,filter_all]
  exact congrArg (fun l=>some (O.list l)) k1
noncomputable def cOa:ISs:=(.cons (.ret (.bin .Add (.bin .Add (.const (.str ("{"))) (.bmeth .join (.const (.str (", "))) (.cons (.comp [7,8] true (.of (.loc 6)) .nil (.ite (.val (.cmp .Eq (.loc 7) (.loc 8))) (.blt .str (.cons (.loc 7) .nil)) (.bin .Add (.bin .Add (.blt .str (.cons (.loc 7) .nil)) (.const (.str ("..")))) (.blt .str (.cons (.loc 8) .nil))))) .nil))) (.const (.str ("}"))))) .nil)
theorem eJa {cf:aU} {H0 H:Heap} {h T o f r:Nat} {x4:Option V} {as:List Nat} {rs:List (Nat × Nat)} (e:Ext H0 H) (hr:H[r]? = some (.list (as.map V.ref))) (hp:eX H as rs) (hl:rs.length ≤ 8) (hx:∀ z ∈ rs,z.1 < 8∧z.2 < 8) :
  W (aJ cf cOa (lsE h T o f r x4) H) (Out (Ret H0 (.str (qZ rs)))):=by
 have hx':∀ z ∈ rs,z.1 < 2000∧z.2 < 2000:=fun z hz=>⟨by have:=(hx z hz).1; exact lin [_] (.a .x (.n 1)) (.n 2000) [(.a .x (.n 1),.n 8)] rfl this,by have:=(hx z hz).2; exact lin [_] (.a .x (.n 1)) (.n 2000) [(.a .x (.n 1),.n 8)] rfl this⟩
 obtain ⟨q1,q2⟩:=wN (rs:=rs) (by exact lin [_] .x (.n 40) [(.x,.n 8)] rfl hl) hx'
 have s1:SL 1 ("{":Str):=aN (by kernel_rfl)
 refine cM (bW (bW (E_p aB (fO (E_p aB ⟨rfl,cF (nEa (Hs:=H0) hr hp hl hx fun b H1 x1 g1=>aK (mK g1 q1 ?_))⟩)))))
 exact cH s1 q2 rfl (E_p aB (cH (aV s1 q2) (aN (m:=1) (by kernel_rfl)) rfl ⟨rfl,e.trans x1⟩))
noncomputable def wGa:ISs:=(.cons (.setl 5 (.comp [7] false (.range (.const (.int (8)))) (.cons (.val (.cmp .Eq (.bin .Mod (.bin .FloorDiv (.attr (.loc 2) 18) (.bin .Pow (.const (.int (2))) (.loc 7))) (.const (.int (2)))) (.const (.int (1))))) .nil) (.loc 7)))
 (.cons (.setl 6 (.list .nil))
 (.cons (.for [4] false (.of (.loc 5)) gYa) cOa)))
theorem uYa {cf:aU} {H:Heap} {h T o t m:Nat} {nm kd:Str} (ho:H[o]? = some (obF nm kd t false false (.int m))) (hm:m < 256):W (aJ cf wGa [some (.ref h),some (.ref T),some (.ref o),some (.int 3),none,none,none,none,none,none,none] H) (Out (Ret H (.str (qZ (cP m 33 0))))):=by
 have hp2:∀ j:Nat,j < 8→0 < (2:Int) ^ j∧(2:Int) ^ j < 1073741824:=by decide +kernel
 refine bC (nC (p:=fun v=>bit m (intOf v).toNat) (g:=id) (it:=⟨(List.range 8).map fun i=>.int (i:Nat),.no⟩) rfl rfl (aG rfl) (fun v hv=>?_) fun f H1 x1 g1 m1=>?_)
 ·obtain ⟨j,hj,rfl⟩:=List.mem_map.mp hv
  have hj:=List.mem_range.mp hj
  refine ⟨[some (.ref h),some (.ref T),some (.ref o),some (.int 3),none,none,none,some (.int j),none,none,none],rfl,?_,fun _=>aA rfl⟩
  have ht:PT cf [some (.ref h),some (.ref T),some (.ref o),some (.int 3),none,none,none,some (.int j),none,none,none] H (.val (.cmp .Eq (.bin .Mod (.bin .FloorDiv (.attr (.loc 2) 18) (.bin .Pow (.const (.int (2))) (.loc 7))) (.const (.int (2)))) (.const (.int (1))))) (bit m j) :=
   aO (aR (dJ (dJ (aF (aA rfl) ho rfl) (dJ (r:=2 ^ j) aB (aA rfl) (cR (p:=(2:Int) = 2∧0 ≤ (j:Int)∧(j:Int) < 62) ⟨rfl,by exact Int.natCast_nonneg _,by exact dD (b:=62) (lin [_] (.a .x (.n 1)) (.n 62) [(.a .x (.n 1),.n 8)] rfl hj)⟩ _)) (wK (hp2 j hj))) aB (qW (by decide))) aB rfl)
  exact (bI ht _).trans (by show ifB (bit m j) _ _ = some (bit m j,H); cases bit m j <;> rfl)
 rw [qDa] at g1
 refine bC (bU (aK (bJ (aG rfl) fun r H2 x2 g2 m2=>?_)))
 have g1':=x2.get g1
 have hlen:(aSa (m:Int)).length ≤ 8:=List.length_filter_le _ _
 refine cY (W.of (iJ (aA rfl) g1') ?_)
 have hrun:zH (aSa (m:Int)) = cP (m:Int) 33 0:=nIa m hm
 refine lB (LS H1 h T o f r (cP m 33 0)) ?_ (fun v l env H3 x=>uDa m2 x) ?_ _ _ _ (.first (x4:=none) rfl rfl (fun x hx=>List.mem_range.mp (List.mem_filter.mp hx).1) x2 g2 hlen hrun)
 ·exact fun l env H3 x=>cO (x.ext.get g1)
 ·intro env H3 x
  have e0:=x1.trans x.ext
  cases x with
  | @first xs x4 he hl hx hE hf hle hg =>
   cases xs with
   | cons _ _=>first | exact nos hl | exact nof hl | cases hl
   | nil=>subst he; rw [← hg]; exact aZ (eJa (as:=[]) (rs:=[]) e0 hf trivial (Nat.zero_le _) fun z hz=>nomatch hz)
  | @on xs x4 as a p q acc he hl hx hE hf hps ha hb hle hg =>
   cases xs with
   | cons _ _=>first | exact nos hl | exact nof hl | cases hl
   | nil =>
    subst he
    rw [← hg]
    refine aZ (eJa (as:=as ++ [a]) e0 (by rw [hf,List.map_append]; rfl) (hps.snoc ha) ?_ fun z hz=>?_)
    ·show (acc ++ [(p,q)]).length ≤ 8
     rw [List.length_append,← hps.len]
     exact Nat.succ_le_succ hle
    ·exact (List.mem_append.mp hz).elim (hb.2.2 z) fun hz=>by rw [List.mem_singleton.mp hz]; exact ⟨hb.1,hb.2.1⟩
end Mine.C
end
section
namespace Mine.C
open PySem (Expr Stmt Str)
inductive TyW (H:Heap) (a:Nat) (P:Int→Str→Str→Str→V→Nat→Prop):Prop where
 | mk {num:Int} {form:Str} {size:Int} {base:V} {len:Int} {fs ps:Nat} {mod lab:Str} {hid:Nat}:H[a]? = some (tyF num form size base len fs ps mod lab hid)→P num form mod lab base ps→TyW H a P
noncomputable def tfT (v:Nat):Str:=if v = 1 then ("TRUE":Str) else ("FALSE":Str)
inductive CV:Str→V→Str→Prop where
 | int (v:Nat):v < 2000→CV "integer" (.int v) (toString (v:Int):String)
 | chr (v:Nat):v < 256→CV "char" (.int v) ("CHR(" ++ (toString (v:Int):String) ++ ")")
 | boo (v:Nat):v < 2→CV "boolean" (.int v) (tfT v)
 | set (v:Nat):v < 256→CV "set" (.int v) (qZ (cP v 33 0))
 | str:CV "string" (.str "ab") "\"ab\""
structure Go (Hs:Heap) (h c T kd:Nat) (ct:Int) (k bo ch by_ it ma ni no:Nat) (H:Heap):Prop where
 fz:Fz [h,T,kd] Hs H
 bld:∃ ct' k',ct ≤ ct'∧k' ≤ k + 1∧Bld H h c T kd ct' k' bo ch by_ it ma ni no
structure lF (H:Heap) (h T kd bo ch it ma no:Nat):Prop where
 b:bL H bo 1 "boolean" 1
 c:bL H ch 2 "char" 1
 i:bL H it 4 "integer" 4
 m:bL H ma 5 "set" 4
 n:bL H no 7 "none" 0
 off:∀ x ∈ [bo,ch,it,ma,no],x ∉ [h,T,kd]
theorem lF.fz {H H':Heap} {h T kd bo ch it ma no:Nat} (b:lF H h T kd bo ch it ma no) (z:Fz [h,T,kd] H H'):lF H' h T kd bo ch it ma no :=
 ⟨b.b.fz z (b.off _ (by simp)),b.c.fz z (b.off _ (by simp)),b.i.fz z (b.off _ (by simp)),b.m.fz z (b.off _ (by simp)),b.n.fz z (b.off _ (by simp)),b.off⟩
inductive xJ (Hs:Heap) (h c T kd:Nat) (ct:Int) (k bo ch by_ it ma ni no o:Nat) (nm:Str) (v:V) (H:Heap):Prop where
 | mk {w:Str} {t:Nat} {val:V}:v = .str w→H[o]? = some (obF nm "const" t false false val)→TyW H t (fun _ form _ _ _ _=>CV form val w)→Go Hs h c T kd ct k bo ch by_ it ma ni no H→xJ Hs h c T kd ct k bo ch by_ it ma ni no o nm v H
noncomputable def tAa:ISs:=(.cons (.ret (.sub (.list (.cons (.blt .str (.cons (.attr (.loc 2) 18) .nil)) (.cons (.bin .Add (.bin .Add (.const (.str ("CHR("))) (.blt .str (.cons (.attr (.loc 2) 18) .nil))) (.const (.str (")")))) (.cons (.ite (.val (.cmp .Eq (.loc 3) (.const (.int (2))))) (.sub (.list (.cons (.const (.str ("FALSE"))) (.cons (.const (.str ("TRUE"))) .nil))) (.attr (.loc 2) 18)) (.const (.str ("")))) (.cons (.const (.str (""))) (.cons (.const (.str ("\"ab\""))) .nil)))))) (.loc 3))) .nil)
noncomputable abbrev lcE (h T o i:Nat):Env:=[some (.ref h),some (.ref T),some (.ref o),some (.int i),none,none,none,none,none,none,none]
theorem i5:∀ i:Nat,i < 5→i = 0 ∨ i = 1 ∨ i = 2 ∨ i = 3 ∨ i = 4:=by decide
theorem i2:∀ i:Nat,i < 2→i = 0 ∨ i = 1:=by decide
theorem oVa {v:Nat} (h:v < 2):((place (v:Int) [V.str "FALSE",V.str "TRUE"].length).bind fun j=>[V.str "FALSE",V.str "TRUE"][j]?) = some (.str (tfT v)):=by
 rcases i2 v h with rfl | rfl <;> rfl
theorem sSa {cf:aU} {H:Heap} {h T o t i:Nat} {nm:Str} {val:V} (hi:i < 5) (ho:H[o]? = some (obF nm "const" t false false val)) (hv:(∃ v:Nat,val = .int v∧v < 2000∧(i = 2→v < 2)) ∨ (i ≠ 2∧val = .str "ab")) {Q:V→Heap→Prop}
  (q:∀ (H':Heap) (w:Str),Ext H H'→(∀ v:Nat,val = .int v→(i = 0→w = (toString (v:Int):String))∧(i = 1→w = "CHR(" ++ (toString (v:Int):String) ++ ")")∧(i = 2→w = tfT v))→(i = 4→w = "\"ab\"")→Q (.str w) H'):W (aJ cf tAa (lcE h T o i) H) (Out Q):=by
 have ha:∀ {H'},Ext H H'→PE cf (lcE h T o i) H' (.attr (.loc 2) 18) val:=fun e=>aF (aA rfl) (e.get ho) rfl
 have hs:∃ vt:Str,SL 4 vt∧(∀ v:Nat,val = .int v→vt = (toString (v:Int):String))∧PE cf (lcE h T o i) H (.blt .str (.cons (.attr (.loc 2) 18) .nil)) (.str vt):=by
  clear ho; rcases hv with ⟨v,rfl,h1,_⟩ | ⟨_,rfl⟩
  ·exact ⟨_,jJ v h1,fun u e=>by cases e; rfl,jX (ha (Ext.refl _)) (by exact ⟨Int.natCast_nonneg _,dD (b:=10000000000) (lin [_] (.a .x (.n 1)) (.n 10000000000) [(.a .x (.n 1),.n 2000)] rfl h1)⟩)⟩
  ·exact ⟨"ab",aN (by kernel_rfl),fun u e=>(nomatch e),kWa (ha (Ext.refl _))⟩
 obtain ⟨vt,v1,v2,v3⟩:=hs
 have s0:SL 4 ("CHR(":Str):=aN (by kernel_rfl)
 refine cM (gC (bU (aD v3 (aD (bR (bR aB v3 s0 v1 rfl) aB (aV s0 v1) (aN (m:=1) (by kernel_rfl)) rfl) (cF ?_)))))
 have fin:∀ (H':Heap) (s:Str),Ext H H'→(∀ v:Nat,val = .int v→i = 2→s = tfT v)→W (bN cf (lcE h T o i) (.cons (.const (.str (""))) (.cons (.const (.str ("\"ab\""))) .nil)) H') fun vs H2=>W (fC (.str vt :: .str ("CHR(" ++ vt ++ ")") :: .str s :: vs) H2) fun x H1=>W (aH cf (lcE h T o i) (.loc 3) H1) fun y H2=>G (subV x y H2) fun u=>Out Q (.ret u,lcE h T o i) H2:=fun H' s e hs=>by
  refine aD aB (aD aB (aK (bJ (aG rfl) fun b H2 x2 g2 m2=>E_p (aA rfl) ?_)))
  refine lK g2 (lM (vs:=[.str vt,.str ("CHR(" ++ vt ++ ")"),.str s,.str "",.str "\"ab\""]) hi) ?_
  clear v3 ha hv
  clear s0 v1 ho; rcases i5 i hi with rfl | rfl | rfl | rfl | rfl
  ·exact q H2 vt (e.trans x2) (fun v e=>⟨fun _=>v2 v e,fun q=>(nomatch q),fun q=>(nomatch q)⟩) fun q=>nomatch q
  ·exact q H2 ("CHR(" ++ vt ++ ")") (e.trans x2) (fun v e=>⟨fun q=>(nomatch q),fun _=>by rw [v2 v e],fun q=>(nomatch q)⟩) fun q=>nomatch q
  ·exact q H2 s (e.trans x2) (fun v e=>⟨fun q=>(nomatch q),fun q=>(nomatch q),fun _=>hs v e rfl⟩) fun q=>nomatch q
  ·exact q H2 "" (e.trans x2) (fun v e=>⟨fun q=>(nomatch q),fun q=>(nomatch q),fun q=>(nomatch q)⟩) fun q=>nomatch q
  ·exact q H2 "\"ab\"" (e.trans x2) (fun v e=>⟨fun q=>(nomatch q),fun q=>(nomatch q),fun q=>(nomatch q)⟩) fun _=>rfl
 have ht:PT cf (lcE h T o i) H (.val (.cmp .Eq (.loc 3) (.const (.int 2)))) (decide ((i:Int) = 2)):=aO (aR (aA rfl) aB rfl)
 clear s0 v3 v2 v1 ho hi; by_cases h2:i = 2
 ·rw [decide_eq_true (by exact qN (b:=2) h2)] at ht
  obtain ⟨v,rfl,_,h3⟩:=hv.resolve_right fun q=>q.1 h2
  have hb:=h3 h2
  exact mL ht (gC (bU (aD aB (aD aB (aK (bJ (aG rfl) fun b H2 x2 g2 m2=>E_p (ha x2) (lK g2 (oVa hb) (fin H2 (tfT v) x2 fun u q _=>by cases q; rfl))))))))
 ·rw [decide_eq_false (by exact fun q=>h2 (oO (b:=2) q))] at ht
  exact E_p (gK ht aB) (fin H "" (Ext.refl _) fun _ _ q=>absurd q h2)
end Mine.C
end
section
namespace Mine.C
open PySem (Expr Stmt Str)
theorem bL.tyw {H:Heap} {a:Nat} {num size:Int} {form:Str} {P:Int→Str→Str→Str→V→Nat→Prop} (h:bL H a num form size) (p:∀ ps,P num form "" "" .none ps):TyW H a P:=let ⟨_,_,_,e⟩:=h; ⟨e,p _⟩
theorem TyW.mono {H H':Heap} {a:Nat} {P P':Int→Str→Str→Str→V→Nat→Prop} (h:TyW H a P) (x:∀ o,H[a]? = some o→zX o = false→H'[a]? = some o) (p:∀ num form mod lab base ps,P num form mod lab base ps→P' num form mod lab base ps):TyW H' a P':=by
 cases h with
 | mk e q=>exact ⟨x _ e rfl,p _ _ _ _ _ _ q⟩
theorem pQa:∀ i:Nat,i < 5→intOp .Mod ((i:Int) + 1) 5 = some (((i + 1) % 5:Nat):Int):=by decide +kernel
theorem Bld.off {H:Heap} {h c T kd k bo ch by_ it ma ni no:Nat} {ct:Int} (B:Bld H h c T kd ct k bo ch by_ it ma ni no) {x:Nat} (hx:H[x]? = none):∀ y:Nat,y = h ∨ y = c ∨ y = T ∨ y = kd→y ≠ x:=fun y hy q=>by
 obtain ⟨ns,pos,rest,seed,A⟩:=B.hand
 obtain ⟨o,ho⟩:=B.known.here
 subst q
 rcases hy with rfl | rfl | rfl | rfl
 ·rw [A.hand] at hx; first | exact nos hx | exact nof hx | cases hx
 ·rw [A.cells] at hx; first | exact nos hx | exact nof hx | cases hx
 ·rw [B.tys] at hx; first | exact nos hx | exact nof hx | cases hx
 ·rw [ho] at hx; first | exact nos hx | exact nof hx | cases hx
theorem Bld.set {H H':Heap} {h c T kd k bo ch by_ it ma ni no a:Nat} {ct:Int} {o:O} (B:Bld H h c T kd ct k bo ch by_ it ma ni no) (s:bQ H a o H') (hn:∀ y:Nat,y = h ∨ y = c ∨ y = T ∨ y = kd→y ≠ a):Bld H' h c T kd ct k bo ch by_ it ma ni no:=B.keep fun y hy _ e=>s.get (hn y hy) e
theorem Fz.set {M:List Nat} {A H H':Heap} {a:Nat} {o:O} (z:Fz M A H) (s:bQ H a o H') (hn:A[a]? = none):Fz M A H':=fun y x hy e=>s.get (fun w=>by rw [w,hn] at e; cases e) (z y x hy e)
noncomputable def bPa:IE:=(.sub (.list (.cons (.const (.str ("ab"))) (.cons (.call .pick (.cons (.loc 0) (.cons (.const (.int (2000))) .nil))) (.cons (.call .pick (.cons (.loc 0) (.cons (.const (.int (256))) .nil))) (.cons (.call .pick (.cons (.loc 0) (.cons (.const (.int (2))) .nil))) (.cons (.call .pick (.cons (.loc 0) (.cons (.const (.int (256))) .nil))) .nil)))))) (.bin .Mod (.bin .Add (.loc 3) (.const (.int (1)))) (.const (.int (5)))))
theorem vXa {H h c T kd k bo ch by_ it ma ni no n o i} {ct:Int} (B:Bld H h c T kd ct k bo ch by_ it ma ni no) (hi:i < 5) {Q:V→Heap→Prop}
  (q:∀ H' (j1 j2 j3 j4:Nat),j1 < 2000→j2 < 256→j3 < 2→j4 < 256→But h H H'→Bld H' h c T kd ct k bo ch by_ it ma ni no→∀ v,[V.str "ab",.int j1,.int j2,.int j3,.int j4][(i + 1) % 5]? = some v→Q v H'):W (aH (aC tbl (n + 1)) (lcE h T o i) bPa H) Q:=by
 refine gC (bU (aD aB (cF (dO B (aA rfl) aB (by decide) fun H1 j1 h1 S1 B1=>cF (dO B1 (aA rfl) aB (by decide) fun H2 j2 h2 S2 B2=>?_)))))
 refine cF (dO B2 (aA rfl) aB (by decide) fun H3 j3 h3 S3 B3=>cF (dO B3 (aA rfl) aB (by decide) fun H4 j4 h4 S4 B4=>aK (bJ (aG rfl) fun b H5 x5 g5 m5=>?_)))
 have hlt:(i + 1) % 5 < [V.str "ab",.int j1,.int j2,.int j3,.int j4].length:=Nat.mod_lt _ (Nat.succ_pos 4)
 exact E_p (dJ (dJ (aA rfl) aB rfl) aB (pQa i hi)) (lK g5 (lM hlt) (q H5 j1 j2 j3 j4 (Int.ofNat_lt.mp h1) (Int.ofNat_lt.mp h2) (Int.ofNat_lt.mp h3) (Int.ofNat_lt.mp h4) (S1.but.trans (S2.but.trans (S3.but.trans (S4.but.trans x5.but)))) (B4.ext x5) _ (List.getElem?_eq_getElem hlt)))
noncomputable def cIa:IE:=(.sub (.list (.cons (.attr (.loc 1) 34) (.cons (.attr (.loc 1) 32) (.cons (.attr (.loc 1) 31) (.cons (.attr (.loc 1) 35) (.cons (.ometh .string .tys (.loc 1) (.cons (.const (.int (3))) .nil)) .nil)))))) (.loc 3))
theorem qVa {H h c T kd k bo ch by_ it ma ni no n o i} {ct:Int} (B:Bld H h c T kd ct k bo ch by_ it ma ni no) (hk:k ≤ 900) (b:lF H h T kd bo ch it ma no) (hi:i < 5) {Q:V→Heap→Prop}
  (q:∀ H' t,Go H h c T kd ct k bo ch by_ it ma ni no H'→TyW H' t (fun _ form _ _ _ _=>[("integer":Str),"char","boolean","set","string"][i]? = some form)→Q (.ref t) H'):W (aH (aC tbl (n + 3)) (lcE h T o i) cIa H) Q:=by
 refine gC (bU (aD (aF (aA rfl) B.tys rfl) (aD (aF (aA rfl) B.tys rfl) (aD (aF (aA rfl) B.tys rfl) (aD (aF (aA rfl) B.tys rfl) (cF (fZ (E_p (aA rfl) ⟨k_inst B.tys,aD aB (aK ((string_ B hk).mono fun v H1 k=>aK ?_))⟩))))))))
 refine cps fun G_ g_=>?_
 obtain ⟨a,f,p,hid,rfl,na,ea,B1,z1⟩:=k
 refine g_ ?_
 clear g_
 refine bJ (aG rfl) fun tb H2 x2 g2 m2=>E_p (aA rfl) ?_
 have z2:=z1.trans x2.fz
 have b2:=b.fz z2
 have g:Go H h c T kd ct _ bo ch by_ it ma ni no H2:=⟨z2,_,_,by exact zA_,Nat.le_refl _,B1.ext x2⟩
 refine lK g2 (lM (vs:=[.ref it,.ref ch,.ref bo,.ref ma,.ref a]) hi) ?_
 rcases i5 i hi with rfl | rfl | rfl | rfl | rfl
 ·exact q H2 it g (b2.i.tyw fun _=>rfl)
 ·exact q H2 ch g (b2.c.tyw fun _=>rfl)
 ·exact q H2 bo g (b2.b.tyw fun _=>rfl)
 ·exact q H2 ma g (b2.m.tyw fun _=>rfl)
 ·exact q H2 a g ⟨x2.get ea,rfl⟩
theorem i4 {i:Nat} (hi:i < 5) (h3:i ≠ 3):i = 0 ∨ i = 1 ∨ i = 2 ∨ i = 4:=(i5 i hi).imp_right fun h=>h.imp_right fun h=>h.imp_right fun h=>h.resolve_left h3
theorem qEa {i j1 j2 j3 j4:Nat} {v:V} (hi:i < 5) (h3:i ≠ 3) (hv:[V.str "ab",.int j1,.int j2,.int j3,.int j4][(i + 1) % 5]? = some v) (h1:j1 < 2000) (h2:j2 < 256) (h3':j3 < 2):(∃ u:Nat,v = .int u∧u < 2000∧(i = 2→u < 2)) ∨ (i ≠ 2∧v = .str "ab"):=by
 rcases i4 hi h3 with rfl | rfl | rfl | rfl <;> (injection hv with hv; subst hv)
 ·exact .inl ⟨_,rfl,h1,fun q=>nomatch q⟩
 ·exact .inl ⟨_,rfl,Nat.lt_trans h2 (by decide),fun q=>nomatch q⟩
 ·exact .inl ⟨_,rfl,Nat.lt_trans h3' (by decide),fun _=>h3'⟩
 ·exact .inr ⟨by decide,rfl⟩
theorem lUa {i j1 j2 j3 j4:Nat} {v:V} {form w:Str} (hi:i < 5) (h3:i ≠ 3) (hv:[V.str "ab",.int j1,.int j2,.int j3,.int j4][(i + 1) % 5]? = some v) (hf:[("integer":Str),"char","boolean","set","string"][i]? = some form) (h1:j1 < 2000) (h2:j2 < 256) (h3':j3 < 2)
  (hw:∀ u:Nat,v = .int u→(i = 0→w = (toString (u:Int):String))∧(i = 1→w = "CHR(" ++ (toString (u:Int):String) ++ ")")∧(i = 2→w = tfT u)) (h4:i = 4→w = "\"ab\""):CV form v w:=by
 rcases i4 hi h3 with rfl | rfl | rfl | rfl <;> (injection hv with hv; injection hf with hf; subst hv; subst hf)
 ·rw [(hw _ rfl).1 rfl]; exact .int _ h1
 ·rw [(hw _ rfl).2.1 rfl]; exact .chr _ h2
 ·rw [(hw _ rfl).2.2 rfl]; exact .boo _ h3'
 ·rw [h4 rfl]; exact .str
theorem nHa {Hs H h c T kd k bo ch by_ it ma ni no n o t0} {ct:Int} {nm:Str} (B:Bld H h c T kd ct k bo ch by_ it ma ni no) (hk:k ≤ 900) (b:lF H h T kd bo ch it ma no) (z:Fz [h,T,kd] Hs H) (hn:Hs[o]? = none) (hh:∀ y:Nat,y = h ∨ y = c ∨ y = T ∨ y = kd→y ≠ o) (ho:H[o]? = some (obF nm "const" t0 false false .none)) :
  W (aC tbl (n + 4) .lconstant [.ref h,.ref T,.ref o] H) (xJ Hs h c T kd ct k bo ch by_ it ma ni no o nm):=by
 have hoM:o ∉ [h,T,kd]:=fun q=>by
  rcases List.mem_cons.mp q with q | q
  ·exact hh h (.inl rfl) q.symm
  ·rcases List.mem_cons.mp q with q | q
   ·exact hh T (.inr (.inr (.inl rfl))) q.symm
   ·exact hh kd (.inr (.inr (.inr rfl))) (List.mem_singleton.mp q).symm
 refine bK (env:=[some (.ref h),some (.ref T),some (.ref o),none,none,none,none,none,none,none,none]) rfl ?_
 refine bC (dO B (aA rfl) aB (by decide) fun H1 i hi S1 B1=>?_)
 have hi:i < 5:=Int.ofNat_lt.mp hi
 have z1:Fz [h,T,kd] H H1:=S1.fz
 refine cW (e:=cIa) (qVa (o:=o) (i:=i) B1 hk (b.fz z1) hi fun H2 t g2 t2=>?_)
 have o2:=g2.fz _ _ hoM (z1 _ _ hoM ho)
 refine E_p (aA rfl) (cZ o2 (aG rfl) fun H3 s3=>?_)
 refine cps fun G_ g_=>?_
 obtain ⟨z2,ct',k',c2,k2,B2⟩:=g2
 refine g_ ?_
 clear g_
 have hto:t ≠ o:=fun w=>by cases t2 with | mk e _=>rw [w,o2] at e; first | exact nos e | exact nof e | cases e
 have B3:=B2.set s3 hh
 have z3:Fz [h,T,kd] Hs H3:=(z.trans (z1.trans z2)).set s3 hn
 refine cW (e:=bPa) (vXa (o:=o) (i:=i) B3 hi fun H4 j1 j2 j3 j4 h1 h2 h3' h4 b4 B4 v hv=>?_)
 have ohh:o ≠ h:=(hh h (.inl rfl)).symm
 have o4:=b4 _ _ ohh s3.self
 refine E_p (aA rfl) (cZ o4 (aG rfl) fun H5 s5=>?_)
 have z5:Fz [h,T,kd] Hs H5:=(z3.trans (b4.fz (.head _))).set s5 hn
 have B5:=B4.set s5 hh
 have t5:TyW H5 t fun _ form _ _ _ _=>[("integer":Str),"char","boolean","set","string"][i]? = some form:=by
  cases t2 with
  | mk e q=>exact ⟨s5.get hto (b4 _ _ (fun w=>hoM (by
    exfalso
    obtain ⟨ns,pos,rest,seed,A⟩:=B2.hand
    rw [w,A.hand] at e; cases e)) (s3.get hto e)),q⟩
 have o5:H5[o]? = some (obF nm "const" t false false v):=s5.self
 clear o4 o2 s3 s5 B2 B3 B4 b4 z3 z2 z1 t2
 have ht:∀ {r:ISs},PT (aC tbl (n + 3)) (lcE h T o i) H5 (.val (.cmp .Eq (.loc 3) (.const (.int 3)))) (decide ((i:Int) = 3)):=aO (aR (aA rfl) aB rfl)
 have fin:∀ H' w,Ext H5 H'→TyW H' t (fun _ form _ _ _ _=>CV form v w)→xJ Hs h c T kd ct k bo ch by_ it ma ni no o nm (.str w) H':=fun H' w e tw=>⟨rfl,e.get o5,tw,z5.trans e.fz,ct',k',c2,k2,B5.ext e⟩
 by_cases h3:i = 3
 ·subst h3
  cases hv
  refine cJ (ht (r:=.nil)) ((uYa (h:=h) (T:=T) o5 h4).mono fun x H' k=>?_)
  have f3:=fun e=>fin H' _ e (t5.mono (fun o h _=>e.get h) fun num form mod lab base ps hf=>by cases hf; exact CV.set j4 h4)
  obtain ⟨fl,e⟩:=x
  cases fl with
  | next=>exact absurd k.1 fun q=>nomatch q
  | cont=>exact k
  | ret u=>exact (show u = _ from k.1) ▸ f3 k.2
 ·have ht':=ht (r:=.nil)
  rw [decide_eq_false (by exact fun q=>h3 (oO (b:=3) q))] at ht'
  refine bH ht' (bF (sSa hi o5 ?_ fun H' w e hw h4'=>fin H' w e (t5.mono (fun o h _=>e.get h) fun num form mod lab base ps hf=>?_)))
  ·exact qEa hi h3 hv h1 h2 h3'
  ·exact lUa hi h3 hv hf h1 h2 h3' (fun v e=>⟨(hw v e).1,(hw v e).2.1,(hw v e).2.2⟩) h4'
end Mine.C
end
section
namespace Mine.C
open PySem (Expr Stmt Str)
structure Ad where
 s:Nat
 c:Nat
 h:Nat
 T:Nat
 ot:Nat
 pl:Nat
 sh:Nat
 ob:Nat
 im:Nat
 vd:Nat
 al:Nat
 oc:Nat
 kd:Nat
 bo:Nat
 ch:Nat
 by_:Nat
 it:Nat
 ma:Nat
 ni:Nat
 no:Nat
noncomputable abbrev Ad.B (A:Ad) (H:Heap) (ct:Int) (k:Nat):Prop:=Bld H A.h A.c A.T A.kd ct k A.bo A.ch A.by_ A.it A.ma A.ni A.no
noncomputable abbrev Ad.G (A:Ad) (Hs:Heap) (ct:Int) (k:Nat) (H:Heap):Prop:=Go Hs A.h A.c A.T A.kd ct k A.bo A.ch A.by_ A.it A.ma A.ni A.no H
noncomputable def Ad.M (A:Ad):List Nat:=[A.h,A.T,A.kd,A.c,A.pl,A.ob,A.vd,A.al,A.oc]
noncomputable abbrev Ad.V (A:Ad) (H:Heap):Prop:=lF H A.h A.T A.kd A.bo A.ch A.it A.ma A.no
noncomputable def lwE (A:Ad) (x10 x11 x12 x13 x14:Option V):Env:=[none,some (.ref A.c),some (.ref A.h),some (.ref A.T),some (.ref A.ot),some (.ref A.pl),some (.ref A.sh),some (.ref A.vd),some (.ref A.al),some (.ref A.oc),x10,x11,x12,x13,x14,none,none,none,none,none,none,none,none,none,none,none]
theorem rN {H:Heap} {a:Nat} {o:O} (h:H[a]? = some o):H ≠ []:=fun q=>by rw [q] at h; first | exact nos h | exact nof h | cases h
theorem fYa {n:Nat} {env:Env} {as:IEs} {H:Heap} {Q:V→Heap→Prop} (h:W (bN (aC tbl (n + 1)) env as H) fun vs H1=>∃ (name kind:Str) (t:Nat),vs = [.str name,.str kind,.ref t,.int 0]∧H1 ≠ []∧∀ a H',Ext H1 H'→H1[a]? = none→H'[a]? = some (obF name kind t false false .none)→Q (.ref a) H') :
  W (aH (aC tbl (n + 1)) env (.make .ob .initOb as) H) Q :=
 tO (h.mono fun vs H1 k=>by
  obtain ⟨name,kind,t,rfl,hne,q⟩:=k
  exact ⟨hne,cEa (oF H1 _) fun H3 b3 g3=>⟨rfl,q _ H3 (((nA H1 _).but.trans b3).fresh (pY H1)) (pY H1) g3⟩⟩)
theorem Ad.mem {A:Ad} {y:Nat} (hy:y = A.h ∨ y = A.c ∨ y = A.T ∨ y = A.kd):y ∈ A.M:=by
 rcases hy with rfl | rfl | rfl | rfl <;> simp [Ad.M]
noncomputable def xN (j:Nat):Str:=⟨#[120 + j]⟩
theorem wHa:∀ j:Nat,j < 3→subV (.str "xyz") (.int j) [] = some (.str (xN j)):=fun j hj=>by
 have h3:∀ j:Nat,j < 3→j = 0 ∨ j = 1 ∨ j = 2:=by decide
 rcases h3 j hj with rfl | rfl | rfl <;> kernel_rfl
noncomputable def pk (i:Nat):Str:=if i = 1 then ("par":Str) else ("var":Str)
theorem oYa {i:Nat} (h:i < 2):((place (i:Int) [V.str "var",V.str "par"].length).bind fun j=>[V.str "var",V.str "par"][j]?) = some (.str (pk i)):=by
 rcases i2 i h with rfl | rfl <;> rfl
theorem Bld.fresh {Hs H:Heap} {h c T kd k bo ch by_ it ma ni no:Nat} {ct:Int} (B:Bld H h c T kd ct k bo ch by_ it ma ni no) (z:Fz [h,T,kd] Hs H) {b:Nat} (hb:H[b]? = none):Hs[b]? = none:=by
 have hf:=B.off hb
 cases w:Hs[b]? with
 | none=>rfl
 | some o =>
  have:=z b o (fun q=>by
   rcases List.mem_cons.mp q with q | q
   ·exact hf h (.inl rfl) q.symm
   ·rcases List.mem_cons.mp q with q | q
    ·exact hf T (.inr (.inr (.inl rfl))) q.symm
    ·exact hf kd (.inr (.inr (.inr rfl))) (List.mem_singleton.mp q).symm) w
  rw [hb] at this; first | exact nos this | exact nof this | cases this
theorem dG.out {M:List Nat} {H:Heap} {h T kd pl d:Nat} {ps:List Nat} (P:dG M H h T kd pl d ps) {x:Nat} (hx:H[x]? = none):x ∉ M∧x ∉ [h,T,kd] :=
 have h1:x ∉ M:=fun w=>by obtain ⟨o,ho⟩:=P.here x w; rw [ho] at hx; first | exact nos hx | exact nof hx | cases hx
 ⟨h1,fun w=>h1 (P.sub x w)⟩
inductive rU (H:Heap) (d a:Nat) (nm:Str):Prop where
 | mk {num:Int} {b fs ps hid:Nat} {zs:List Item}:H[a]? = some (tyF num "proc" 4 (.ref b) 0 fs ps "M" nm hid)→(bL H b 7 "none" 0 ∨ bL H b 4 "integer" 4)→H[ps]? = some (.list (zs.map fun z=>.ref z.o))→zs.length ≤ 3→(∀ z ∈ zs,gB H z∧SL 3 z.name∧GT H d z.t)→rU H d a nm
structure PF (A:Ad) (Hs:Heap) (ct:Int) (k d:Nat) (ps:List Nat) (o a f p hid:Nat) (nm:Str) (zs:List Item) (H:Heap):Prop where
 bld:A.B H (ct + 1) (k + 1)
 fz:Fz [A.h,A.T,A.kd] Hs H
 ty:H[a]? = some (tyF (ct + 1) "proc" 4 .none 0 f p "M" nm hid)
 li:H[p]? = some (.list (zs.map fun z=>.ref z.o))
 ob:H[o]? = some (obF nm "proc" a false false .none)
 ok:∀ z ∈ zs,(∃ kind ro,H[z.o]? = some (obF z.name kind z.t false ro .none)∧z.var = (decide (kind = "par") && !ro))∧SL 3 z.name∧z.t ∈ ps∧dB Hs z.t z.num∧Hs[z.o]? = none
noncomputable def fVa:ISs:=(.cons (.setl 14 (.make .ob .initOb (.cons (.sub (.const (.str ("xyz"))) (.loc 13)) (.cons (.sub (.list (.cons (.const (.str ("var"))) (.cons (.const (.str ("par"))) .nil))) (.call .pick (.cons (.loc 2) (.cons (.const (.int (2))) .nil)))) (.cons (.sub (.loc 5) (.call .pick (.cons (.loc 2) (.cons (.blt .len (.cons (.loc 5) .nil)) .nil)))) (.cons (.const (.int (0))) .nil))))))
 (.cons (.seta (.loc 14) 17 (.and (.cmp .Eq (.attr (.loc 14) 13) (.const (.str ("par")))) (.cmp .Eq (.call .pick (.cons (.loc 2) (.cons (.const (.int (2))) .nil))) (.const (.int (1))))))
 (.cons (.expr (.bmeth .append (.attr (.attr (.loc 12) 14) 7) (.cons (.loc 14) .nil)))
 .nil)))
theorem uRa {A:Ad} {Hs H:Heap} {ct:Int} {k d n o a f p hid j:Nat} {ps:List Nat} {nm:Str} {zs:List Item} {x10 x11 x14:Option V} (P:dG A.M Hs A.h A.T A.kd A.pl d ps) (hn:Hs[p]? = none∧Hs[o]? = none∧Hs[a]? = none) (hj:j < 3) (hl:zs.length = j) (R:PF A Hs ct k d ps o a f p hid nm zs H)
  {Q:Fl × Env→Heap→Prop} (q:∀ H' y x14,PF A Hs ct k d ps o a f p hid nm (zs ++ [y]) H'→Q (.next,lwE A x10 x11 (some (.ref o)) (some (.int j)) x14) H') :
  W (aJ (aC tbl (n + 2)) fVa (lwE A x10 x11 (some (.ref o)) (some (.int j)) x14) H) Q:=by
 obtain ⟨B,z,ty,li,ob,ok⟩:=R
 have hpM:=(P.out hn.1).2
 have hoM:=(P.out hn.2.1).2
 have haM:=(P.out hn.2.2).2
 have hplh:A.pl ≠ A.h:=fun w=>P.ne (by rw [w]; exact .head _)
 have hps:ps ≠ []:=fun w=>by obtain ⟨a,ha,_⟩:=P.rcd; rw [w] at ha; first | exact nos ha | exact nof ha | cases ha
 have plat:H[A.pl]? = some (.list (ps.map V.ref)):=z _ _ P.ne P.at_
 refine bC (fYa (aD (rIa aB (aA rfl) (wHa j hj)) (cF (gC (bU (aD aB (aD aB (aK (bJ (aG rfl) fun tb H1 x1 g1 m1=>?_)))))))))
 have B1:=B.ext x1
 have htb:tb ≠ A.h:=(B.off m1 _ (.inl rfl)).symm
 refine dO B1 (aA rfl) aB (by decide) fun H2 i hi S2 B2=>lK ((S2 tb htb).trans g1) (oYa (Int.ofNat_lt.mp hi)) ?_
 have z2:Fz [A.h,A.T,A.kd] H H2:=x1.fz.trans S2.fz
 refine cF (qK B2 (aA rfl) (fun _=>aA rfl) (z2 _ _ P.ne plat) hplh hps (Nat.le_trans P.len (aG rfl)) fun H3 t ht S3 B3=>aD aB (aK ⟨_,_,_,rfl,rN B3.tys,fun b H4 e4 n4 g4=>?_⟩))
 have z3:Fz [A.h,A.T,A.kd] H H3:=z2.trans S3.fz
 have nb:H[b]? = none:=B3.fresh z3 n4
 have nbs:Hs[b]? = none:=B3.fresh (z.trans z3) n4
 have hbh:b ≠ A.h:=(B3.off n4 _ (.inl rfl)).symm
 have z4:Fz [A.h,A.T,A.kd] H H4:=z3.trans e4.fz
 have B4:=B3.ext e4
 have fin:∀ (ro:Bool) (H5:Heap),Fz [A.h,A.T,A.kd] H H5→A.B H5 (ct + 1) (k + 1)→H5[b]? = some (obF (xN j) (pk i) t false false .none) →
   W (aH (aC tbl (n + 2)) (lwE A x10 x11 (some (.ref o)) (some (.int j)) (some (.ref b))) (.loc 14) H5) fun ov H2=>G (kI ov 17 (.bool ro) H2) fun H3=>W (aJ (aC tbl (n + 2)) (.cons (.expr (.bmeth .append (.attr (.attr (.loc 12) 14) 7) (.cons (.loc 14) .nil))) .nil) (lwE A x10 x11 (some (.ref o)) (some (.int j)) (some (.ref b))) H3) Q:=fun ro H5 z5 B5 g5=>by
  refine E_p (aA rfl) (cZ g5 (aG rfl) fun H6 s6=>?_)
  have z6:=z5.set s6 nb
  have B6:A.B H6 (ct + 1) (k + 1):=B5.set s6 (B.off nb)
  have li6:=z6 _ _ hpM li
  have ob6:=z6 _ _ hoM ob
  have ty6:=z6 _ _ haM ty
  refine mQ (aF (aF (aA rfl) ob6 rfl) ty6 rfl) (aA rfl) li6 (by rw [List.length_map,hl]; exact lin [_] .x (.n 1000) [(.a .x (.n 1),.n 3)] rfl hj) fun H7 s7=>aX ?_
  have hne:∀ {y:Nat} {x:O},H6[y]? = some x→(∀ vs,x ≠ .list vs)→H7[y]? = some x:=fun {y x} e q=>s7.get (fun w=>by rw [w,li6] at e; cases e; exact q _ rfl) e
  obtain ⟨num,hnum⟩:=P.ty t ht
  refine q H7 ⟨b,xN j,decide (pk i = "par") && !ro,num,t⟩ _ ⟨B6.set s7 fun y hy w=>?_,(z.trans z6).set s7 hn.1,hne ty6 fun _ w=>(nomatch w),by rw [s7.self,List.map_append]; rfl,hne ob6 fun _ w=>(nomatch w),fun y hy=>?_⟩
  ·exact (P.out hn.1).1 (w ▸ Ad.mem hy)
  ·rcases List.mem_append.mp hy with hy | hy
   ·obtain ⟨⟨kind,r,e,e2⟩,o2,o3,o4,o5⟩:=ok y hy
    exact ⟨⟨kind,r,hne (z6 _ _ (P.out o5).2 e) fun _ w=>(nomatch w),e2⟩,o2,o3,o4,o5⟩
   ·rw [List.mem_singleton.mp hy]
    exact ⟨⟨pk i,ro,hne s6.self fun _ w=>(nomatch w),rfl⟩,Nat.le_trans (Nat.le_refl 1) (by decide),ht,hnum,nbs⟩
 have hkd:∀ {x13},PE (aC tbl (n + 2)) (lwE A x10 x11 (some (.ref o)) x13 (some (.ref b))) H4 (.cmp .Eq (.attr (.loc 14) 13) (.const (.str "par"))) (.bool (decide (pk i = "par"))):=aR (aF (aA rfl) g4 rfl) aB rfl
 refine cW (uG (E_p hkd ⟨_,rfl,fun _=>?_,fun _=>fin false H4 z4 B4 g4⟩))
 exact fW (dO B4 (aA rfl) aB (by decide) fun H5 m hm S5 B5=>E_p aB (zF (fin _ H5 (z4.trans S5.fz) B5 ((S5 b hbh).trans g4))))
end Mine.C
end
section
namespace Mine.C
open PySem (Expr Stmt Str)
structure Sh where
 o:Nat
 at_:Nat
 kd:Nat
 t:Nat
 num:Int
 al:Bool
 val:V
 w:Str
noncomputable def kS (k:Nat):Str:=(["const","type","var","proc"]:List Str)[k]?.getD ""
noncomputable def kL (k:Nat):Str:=(["c","T","v","P"]:List Str)[k]?.getD ""
noncomputable def bY (k i:Nat):Str:=kL k ++ (toString (i:Int):String)
noncomputable def Sh.name (x:Sh):Str:=bY x.kd x.at_
noncomputable def Sh.sn (x:Sh):Int:=if x.kd = 1 then x.num else -1
set_option synthInstance.maxHeartbeats 400000 in
set_option synthInstance.maxSize 2000 in
theorem yH:∀ k,k < 4→∀ k',k' < 4→∀ i,i < 6→∀ j,j < 6→bY k i = bY k' j→i = j∧k = k':=by decide +kernel
theorem pQ:∀ k,k < 4→∀ i,i < 6→bY k i ≠ ""∧bY k i ≠ "R"∧bY k i ≠ "N"∧bY k i ≠ "SYSTEM"∧bY k i ≠ "TRUE"∧bY k i ≠ "FALSE"∧bY k i ≠ "CHR"∧Nat.ble (bY k i).length 2 = true:=by decide +kernel
theorem k4:∀ k:Nat,k < 4→k = 0 ∨ k = 1 ∨ k = 2 ∨ k = 3:=by decide
structure gG (H:Heap) (d:Nat) (x:Sh):Prop where
 kd:x.kd < 4
 ob:H[x.o]? = some (obF x.name (kS x.kd) x.t false false x.val)
 al:x.kd ≠ 1→x.al = false
 con:x.kd = 0→TyW H x.t fun _ form _ _ _ _=>CV form x.val x.w
 tv:x.kd = 1 ∨ x.kd = 2→GT H d x.t
 ty:x.kd = 1→TyW H x.t fun num form mod lab _ _=>num = x.num∧(x.al = true→lab ≠ x.name)∧(x.al = false→lab = x.name∧mod = "M"∧8 ≤ num)
 prc:x.kd = 3→rU H d x.t x.name
theorem bL.xj {H H':Heap} {a:Nat} {num size:Int} {form:Str} (x:Xj H H') (h:bL H a num form size):bL H' a num form size:=let ⟨f,p,q,e⟩:=h; ⟨f,p,q,x _ _ e rfl⟩
theorem dB.xj {H H':Heap} {a:Nat} {num:Int} (x:Xj H H') (h:dB H a num):dB H' a num:=let ⟨f,s,b,l,y,p,m,q,i,e⟩:=h; ⟨f,s,b,l,y,p,m,q,i,x _ _ e rfl⟩
theorem TyW.xj {H H':Heap} {a:Nat} {P:Int→Str→Str→Str→V→Nat→Prop} (x:Xj H H') (h:TyW H a P):TyW H' a P:=h.mono (fun o e j=>x _ o e j) fun _ _ _ _ _ _ q=>q
theorem lF.xj {H H':Heap} {h T kd bo ch it ma no:Nat} (x:Xj H H') (b:lF H h T kd bo ch it ma no):lF H' h T kd bo ch it ma no:=⟨b.b.xj x,b.c.xj x,b.i.xj x,b.m.xj x,b.n.xj x,b.off⟩
theorem rU.xj {H H':Heap} {d d' a:Nat} {nm:Str} (x:Xj H H') (hd:∀ t,GT H d t→GT H' d' t) (h:rU H d a nm):rU H' d' a nm:=by
 cases h with
 | mk e b l n z=>exact .mk (x _ _ e rfl) (b.imp (·.xj x) (·.xj x)) (x _ _ l rfl) n fun y hy=>let ⟨⟨⟨k,u,r,v,e,q⟩,t⟩,s,g⟩:=z y hy; ⟨⟨⟨k,u,r,v,x _ _ e rfl,q⟩,t.xj x⟩,s,hd _ g⟩
theorem gG.xj {H H':Heap} {d d':Nat} {x:Sh} (j:Xj H H') (hd:∀ t,GT H d t→GT H' d' t) (h:gG H d x):gG H' d' x :=
 ⟨h.kd,j _ _ h.ob rfl,h.al,fun e=>(h.con e).xj j,fun e=>hd _ (h.tv e),fun e=>(h.ty e).xj j,fun e=>(h.prc e).xj j hd⟩
noncomputable def lJ (i:Nat) (lab:Str):Prop:=∀ kd j,kd < 4→j < 6→i ≤ j→lab ≠ bY kd j
theorem lJ.up {i:Nat} {lab:Str} (h:lJ i lab):lJ (i + 1) lab:=fun kd j a b c=>h kd j a b (Nat.le_of_succ_le c)
theorem lJ.new {kd i:Nat} (hk:kd < 4) (hi:i < 6):lJ (i + 1) (bY kd i):=fun kd' j a b c q=>Nat.lt_irrefl i (by have:=(yH kd hk kd' a i hi j b q).1; exact lin [_,_] (.a .x (.n 1)) .x [(.a .x (.n 1),.y),(.y,.x)] rfl c (Nat.le_of_eq this.symm))
theorem lJ.lit {lab:Str} (h:lab = "" ∨ lab = "R") (i:Nat):lJ i lab:=fun kd j a b _ q=>by
 rcases h with rfl | rfl
 ·exact (pQ kd a j b).1 q.symm
 ·exact (pQ kd a j b).2.1 q.symm
noncomputable def PL (H:Heap) (ct:Int) (i:Nat) (a:Nat):Prop:=TyW H a fun num _ _ lab _ _=>num ≤ ct∧lJ i lab
theorem PL.xj {H H':Heap} {ct ct':Int} {i a:Nat} (j:Xj H H') (hc:ct ≤ ct') (h:PL H ct i a):PL H' ct' (i + 1) a:=h.mono (fun o e k=>j _ o e k) fun _ _ _ _ _ _ q=>⟨Int.le_trans q.1 hc,q.2.up⟩
structure TO (A:Ad) (Hs:Heap) (i:Nat) (ps:List Nat) (es:List (Str × V)) (ns:List Int) (als:List Str) (ct:Int) (k:Nat) (x:Sh) (H:Heap):Prop where
 fz:Fz A.M Hs H
 bld:∃ ct' k',ct ≤ ct'∧k' ≤ k + 1∧A.B H ct' k'∧x.sn ≤ ct'∧(x.al = false→x.sn = -1 ∨ ct < x.sn)∧∃ ps',H[A.pl]? = some (.list (ps'.map V.ref))∧(ps' = ps ∨ ∃ t,ps' = ps ++ [t]∧GT (mask A.M H) (i + 1) t∧PL (mask A.M H) ct' (i + 1) t)
 ob:H[A.ob]? = Hs[A.ob]?
 vd:∃ es',H[A.vd]? = some (.dict es')∧es'.length ≤ es.length + 1∧(∀ s,s ≠ x.name→look s es' = look s es)∧(x.kd = 0→look x.name es' = some (.str x.w))
 al:H[A.al]? = some (.list ((als ++ if x.al = true then [x.name] else []).map V.str))
 oc:∃ ns':List Int,H[A.oc]? = some (.list (ns'.map V.int))∧ns'.length ≤ ns.length + 1
 it:gG (mask A.M H) (i + 1) x
structure TI (A:Ad) (Hs:Heap) (i:Nat) (ps:List Nat) (es:List (Str × V)) (ns:List Int) (als:List Str) (ct:Int) (k:Nat):Prop where
 bld:A.B Hs ct k
 k:k ≤ 900
 pool:dG A.M Hs A.h A.T A.kd A.pl i ps
 bas:A.V (mask A.M Hs)
 nod:A.M.Nodup
 pl:∀ a ∈ ps,PL (mask A.M Hs) ct i a
 ob:∃ vs,Hs[A.ob]? = some (.list vs)
 vd:Hs[A.vd]? = some (.dict es)∧es.length ≤ 10
 al:Hs[A.al]? = some (.list (als.map V.str))∧als.length ≤ 10
 oc:Hs[A.oc]? = some (.list (ns.map V.int))∧ns.length ≤ 10
end Mine.C
end
section
namespace Mine.C
open PySem (Expr Stmt Str)
theorem Ad.hTk {A:Ad}:∀ x ∈ [A.h,A.T,A.kd],x ∈ A.M:=fun x hx=>List.mem_append_left _ hx
theorem Ad.off {A:Ad} (nod:A.M.Nodup):∀ y ∈ [A.c,A.pl,A.ob,A.vd,A.al,A.oc],y ∉ [A.h,A.T,A.kd]:=fun y hy hq=>by
 have:([A.h,A.T,A.kd] ++ [A.c,A.pl,A.ob,A.vd,A.al,A.oc]).Nodup:=nod
 exact (List.nodup_append.mp this).2.2 y hq y hy rfl
theorem Ad.last {A:Ad} (nod:A.M.Nodup):[A.pl,A.ob,A.vd,A.al,A.oc].Nodup:=(show ([A.h,A.T,A.kd,A.c] ++ [A.pl,A.ob,A.vd,A.al,A.oc]).Nodup from nod).sublist (List.sublist_append_right _ _)
theorem five {a b c d e:Nat} (h:[a,b,c,d,e].Nodup):(a ≠ b∧a ≠ c∧a ≠ d∧a ≠ e)∧(b ≠ c∧b ≠ d∧b ≠ e)∧(c ≠ d∧c ≠ e)∧d ≠ e:=by
 simpa only [List.nodup_cons,List.mem_cons,List.not_mem_nil,or_false,not_or,not_false_eq_true,List.nodup_nil,and_true] using h
noncomputable def sY (o:O):Bool:=match o with
 | .list _=>true
 | .dict _=>true
 | .tdict _=>true
 | .inst c _=>match c with
  | .tys=>true
  | _=>false
 | _=>false
theorem no9 {A:Ad} {H:Heap} {x k:Nat} {ct:Int} {o':O} (hx:H[x]? = some o') (hc:sY o' = false) (B:A.B H ct k) (l:∀ y ∈ [A.pl,A.ob,A.vd,A.al,A.oc],∃ o,H[y]? = some o∧sY o = true):x ∉ A.M:=by
 have cl:∀ {y:Nat} {o:O},H[y]? = some o→sY o = true→x ≠ y:=fun e q w=>by rw [w,e] at hx; cases hx; rw [hc] at q; first | exact nos q | exact nof q | cases q
 obtain ⟨ns',pos,rest,seed,Hd⟩:=B.hand
 have hk:x ≠ A.kd:=by
  cases B.known with
  | nil g=>exact cl g rfl
  | some g _=>exact cl g rfl
 intro q
 rcases List.mem_cons.mp q with q | q
 ·exact cl Hd.hand rfl q
 rcases List.mem_cons.mp q with q | q
 ·exact cl B.tys rfl q
 rcases List.mem_cons.mp q with q | q
 ·exact hk q
 rcases List.mem_cons.mp q with q | q
 ·exact cl Hd.cells rfl q
 ·obtain ⟨o,e,n⟩:=l x q
  exact cl e n rfl
theorem TI.here {A:Ad} {Hs H:Heap} {i:Nat} {ps:List Nat} {es:List (Str × V)} {ns:List Int} {als:List Str} {ct:Int} {k:Nat} (I:TI A Hs i ps es ns als ct k) (z:Fz [A.h,A.T,A.kd] Hs H):∀ y ∈ [A.c,A.pl,A.ob,A.vd,A.al,A.oc],H[y]? = Hs[y]?:=fun y hy=>by
 obtain ⟨o,e⟩:=I.pool.here y (List.mem_append_right [A.h,A.T,A.kd] hy)
 rw [e]
 exact z _ _ (Ad.off I.nod y hy) e
theorem TI.no {A:Ad} {Hs H:Heap} {i:Nat} {ps:List Nat} {es:List (Str × V)} {ns:List Int} {als:List Str} {ct ct':Int} {k k':Nat} (I:TI A Hs i ps es ns als ct k) (B:A.B H ct' k') (z:Fz [A.h,A.T,A.kd] Hs H) {x:Nat} {o':O} (hx:H[x]? = some o') (hc:sY o' = false):x ∉ A.M:=by
 obtain ⟨vs,eob⟩:=I.ob
 refine no9 hx hc B fun y hy=>?_
 rw [I.here z y (.tail _ hy)]
 rcases List.mem_cons.mp hy with rfl | hy
 ·exact ⟨_,I.pool.at_,rfl⟩
 rcases List.mem_cons.mp hy with rfl | hy
 ·exact ⟨_,eob,rfl⟩
 rcases List.mem_cons.mp hy with rfl | hy
 ·exact ⟨_,I.vd.1,rfl⟩
 rcases List.mem_cons.mp hy with rfl | hy
 ·exact ⟨_,I.al.1,rfl⟩
 ·rw [List.mem_singleton.mp hy]; exact ⟨_,I.oc.1,rfl⟩
section
variable {K:Type} [DecidableEq K] {x y:K} {v:V}
theorem sS:∀ {es:List (K × V)},look x (put x v es) = some v
 | []=>if_pos rfl
 | (k,u) :: r=>by
  rw [jQ]
  split
  ·rename_i e; exact if_pos e
  ·rename_i e; exact (if_neg e).trans sS
theorem pN (h:y ≠ x):∀ {es:List (K × V)},look y (put x v es) = look y es
 | []=>if_neg (Ne.symm h)
 | (k,u) :: r=>by
  rw [jQ]
  split
  ·rename_i e; subst e; exact (if_neg (Ne.symm h)).trans (if_neg (Ne.symm h)).symm
  ·rw [mH,mH]; split
   ·rfl
   ·exact pN h
theorem jC:∀ {es:List (K × V)},(put x v es).length ≤ es.length + 1
 | []=>Nat.le_refl _
 | (k,u) :: r=>by
  rw [jQ]
  split
  ·exact Nat.le_succ _
  ·exact Nat.succ_le_succ jC
end
theorem nBa {A:Ad} {Hs H:Heap} {i n o k:Nat} {ps:List Nat} {es:List (Str × V)} {ns:List Int} {als:List Str} {ct:Int} {x10 x11 x13 x14:Option V} (I:TI A Hs i ps es ns als ct k) (B:A.B H ct k) (z:Fz [A.h,A.T,A.kd] Hs H) (hn:Hs[o]? = none) (hno:∀ y:Nat,y = A.h ∨ y = A.c ∨ y = A.T ∨ y = A.kd→y ≠ o) (ho:H[o]? = some (obF (bY 0 i) "const" A.no false false .none))
  {Q:Fl × Env→Heap→Prop} (q:∀ H' x,x.o = o→x.at_ = i→TO A Hs i ps es ns als ct k x H'→Q (.next,lwE A x10 x11 (some (.ref o)) x13 x14) H') :
  W (aJ (aC tbl (n + 4)) (.cons (.seti (.loc 7) (.attr (.loc 12) 12) (.call .lconstant (.cons (.loc 2) (.cons (.loc 3) (.cons (.loc 12) .nil))))) .nil) (lwE A x10 x11 (some (.ref o)) x13 x14) H) Q:=by
 refine lD (bO (aD (aA rfl) (aD (aA rfl) (aD (aA rfl) (aK ((nHa B I.k ((I.bas.xj uW).fz z) z hn hno ho).mono fun v H1 r=>?_))))))
 refine cps fun G kG=>?_
 cases r with
 | @mk w t val hv o1 t1 g =>
 subst hv
 obtain ⟨z1,ct',k',c1,c2,B1⟩:=g
 have here:=I.here z1
 have vd1:H1[A.vd]? = some (.dict es):=(here _ (by simp)).trans I.vd.1
 have hl:=I.vd.2
 refine kG (E_p (aA rfl) (E_p (aF (aA rfl) o1 rfl) (fZa vd1 (by exact lin [_] .x (.n 1000) [(.x,.n 10)] rfl hl) fun H2 s2=>aX (q H2 ⟨o,i,0,t,0,false,val,w⟩ rfl rfl ?_))))
 have hoM:=(I.pool.out hn).1
 have htM:t ∉ A.M:=by cases t1 with | mk e _=>exact I.no B1 z1 e rfl
 obtain ⟨⟨_,pv,_,_⟩,⟨ov,_,_⟩,⟨va,vo⟩,_⟩:=five (Ad.last I.nod)
 have vM:A.vd ∈ A.M:=by simp [Ad.M]
 have off:=Ad.off I.nod A.vd (by simp)
 have B2:A.B H2 ct' k':=B1.keep fun y hy o e=>s2.get (fun w=>by
  rcases hy with hy | hy | hy | hy
  ·exact off (by rw [← w,hy]; simp)
  ·subst hy; rw [← w] at vd1; obtain ⟨_,_,_,_,Hd⟩:=B1.hand; rw [Hd.cells] at vd1; first | exact nos vd1 | exact nof vd1 | cases vd1
  ·exact off (by rw [← w,hy]; simp)
  ·exact off (by rw [← w,hy]; simp)) e
 have pl2:H2[A.pl]? = some (.list (ps.map V.ref)):=s2.get pv ((here _ (by simp)).trans I.pool.at_)
 have hb7:=B1.ct
 have hov:o ≠ A.vd:=fun w=>by rw [w,vd1] at o1; first | exact nos o1 | exact nof o1 | cases o1
 refine ⟨(z1.sub Ad.hTk).trans (s2.but.fz vM),⟨ct',k',c1,c2,B2,?_,fun _=>.inl rfl,ps,pl2,.inl rfl⟩,(s2.other _ ov).trans (here _ (by simp)),⟨_,s2.self,jC,fun s hs=>pN hs,fun _=>sS⟩,
  ?_,⟨ns,s2.get (Ne.symm vo) ((here _ (by simp)).trans I.oc.1),Nat.le_succ _⟩,⟨Nat.succ_pos 3,?_,fun _=>rfl,fun _=>?_,fun q=>?_,fun q=>(nomatch q),fun q=>(nomatch q)⟩⟩
 ·show (-1:Int) ≤ ct'; exact Int.le_trans (by decide) hb7
 ·show H2[A.al]? = some (.list ((als ++ []).map V.str))
  rw [List.append_nil]
  exact s2.get (Ne.symm va) ((here _ (by simp)).trans I.al.1)
 ·exact dN hoM (s2.get hov o1)
 ·exact t1.mono (fun o e _=>dN htM (s2.get (fun w=>htM (w ▸ vM)) e)) fun _ _ _ _ _ _ q=>q
 ·rcases q with q | q <;> cases q
end Mine.C
end
section
namespace Mine.C
open PySem (Expr Stmt Str)
noncomputable def dYa:ISs:=(.cons (.seta (.attr (.loc 12) 14) 3 (.sub (.list (.cons (.attr (.loc 3) 37) (.cons (.attr (.loc 3) 34) .nil))) (.call .pick (.cons (.loc 2) (.cons (.const (.int (2))) .nil))))) .nil)
noncomputable def hOa:ISs:=(.cons (.seta (.loc 12) 14 (.ometh .new .tys (.loc 3) (.cons (.const (.str ("proc"))) (.cons (.const (.int (4))) (.cons (.const (.str ("M"))) (.cons (.attr (.loc 12) 12) .nil))))))
 (.cons (.for [13] false (.range (.call .pick (.cons (.loc 2) (.cons (.const (.int (4))) .nil)))) fVa) dYa))
theorem TI.now {A:Ad} {Hs H:Heap} {i:Nat} {ps:List Nat} {es:List (Str × V)} {ns:List Int} {als:List Str} {ct ct':Int} {k k':Nat} (I:TI A Hs i ps es ns als ct k) (B:A.B H ct' k') (z:Fz [A.h,A.T,A.kd] Hs H):∀ y ∈ A.M,∃ o,H[y]? = some o:=fun y hy=>by
 obtain ⟨ns',pos,rest,seed,Hd⟩:=B.hand
 rcases List.mem_cons.mp hy with rfl | hy
 ·exact ⟨_,Hd.hand⟩
 rcases List.mem_cons.mp hy with rfl | hy
 ·exact ⟨_,B.tys⟩
 rcases List.mem_cons.mp hy with rfl | hy
 ·exact B.known.here
 ·rw [I.here z y hy]
  exact I.pool.here y (List.mem_append_right [A.h,A.T,A.kd] hy)
section
variable {A:Ad} {Hs H:Heap} {i n o k:Nat} {ps:List Nat} {es:List (Str × V)} {ns:List Int} {als:List Str} {ct:Int} {x10 x11 x13 x14:Option V}
theorem kOa {H1:Heap} {a f p hid:Nat} {zs:List Item} (I:TI A Hs i ps es ns als ct k) (hn:Hs[p]? = none∧Hs[o]? = none∧Hs[a]? = none) (hl:zs.length ≤ 3) (R:PF A Hs ct k i ps o a f p hid (bY 3 i) zs H) {Q:Fl × Env→Heap→Prop}
  (q:∀ H' x,x.o = o→x.at_ = i→TO A Hs i ps es ns als ct k x H'→Q (.next,lwE A x10 x11 (some (.ref o)) x13 x14) H'):W (aJ (aC tbl (n + 2)) dYa (lwE A x10 x11 (some (.ref o)) x13 x14) H) Q:=by
 obtain ⟨B,z,ty,li,ob,ok⟩:=R
 have aM:=I.pool.out hn.2.2
 have oM:=I.pool.out hn.2.1
 have pM:=I.pool.out hn.1
 refine cW (gC (bU (aD (aF (aA rfl) B.tys rfl) (aD (aF (aA rfl) B.tys rfl) (aK (bJ (aG rfl) fun tb H1 x1 g1 m1=>?_))))))
 have B1:=B.ext x1
 have htb:tb ≠ A.h:=(B.off m1 _ (.inl rfl)).symm
 refine dO B1 (aA rfl) aB (by decide) fun H2 m hm S2 B2=>lK ((S2 tb htb).trans g1) (lM (vs:=[.ref A.no,.ref A.it]) (Int.ofNat_lt.mp hm)) ?_
 have z2:Fz [A.h,A.T,A.kd] H H2:=x1.fz.trans S2.fz
 have hb:∃ b,[V.ref A.no,V.ref A.it][m]'(Int.ofNat_lt.mp hm) = .ref b∧∀ H',Xj (mask A.M Hs) H'→bL H' b 7 "none" 0 ∨ bL H' b 4 "integer" 4:=by
  rcases i2 m (Int.ofNat_lt.mp hm) with rfl | rfl
  ·exact ⟨_,rfl,fun H' j=>.inl (I.bas.n.xj j)⟩
  ·exact ⟨_,rfl,fun H' j=>.inr (I.bas.i.xj j)⟩
 obtain ⟨b,eb,hb⟩:=hb
 rw [eb]
 refine E_p (aF (aA rfl) (z2 _ _ oM.2 ob) rfl) (cZ (z2 _ _ aM.2 ty) (aG rfl) fun H3 s3=>aX (q H3 ⟨o,i,3,a,0,false,.none,""⟩ rfl rfl ?_))
 have z3:Fz [A.h,A.T,A.kd] Hs H3:=(z.trans z2).set s3 hn.2.2
 have keep:∀ {y:Nat} {x:O},y ≠ a→y ∉ A.M→H[y]? = some x→(mask A.M H3)[y]? = some x:=fun h1 h2 e=>dN h2 (s3.get h1 (z2 _ _ (fun w=>h2 (Ad.hTk _ w)) e))
 have here:=I.here z3
 have xj:Xj (mask A.M Hs) (mask A.M H3):=(z3.sub Ad.hTk).mask
 have hb7:=B.ct
 have hoa:o ≠ a:=fun w=>by rw [w,ty] at ob; first | exact nos ob | exact nof ob | cases ob
 refine ⟨z3.sub Ad.hTk,⟨ct + 1,k + 1,by exact zA_,Nat.le_refl _,B2.set s3 fun y hy w=>aM.1 (w ▸ Ad.mem hy),?_,fun _=>.inl rfl,ps,(here _ (.tail _ (.head _))).trans I.pool.at_,.inl rfl⟩,here _ (.tail _ (.tail _ (.head _))),
  ⟨es,(here _ (.tail _ (.tail _ (.tail _ (.head _))))).trans I.vd.1,Nat.le_succ _,fun _ _=>rfl,fun q=>(nomatch q)⟩,?_,⟨ns,(here _ (.tail _ (.tail _ (.tail _ (.tail _ (.tail _ (.head _))))))).trans I.oc.1,Nat.le_succ _⟩,⟨Nat.lt_succ_self 3,keep hoa oM.1 ob,fun _=>rfl,fun q=>(nomatch q),fun q=>?_,fun q=>(nomatch q),fun _=>?_⟩⟩
 ·show (-1:Int) ≤ ct + 1; exact Int.le_trans (by decide) hb7
 ·show H3[A.al]? = some (.list ((als ++ []).map V.str))
  rw [List.append_nil]
  exact (here _ (.tail _ (.tail _ (.tail _ (.tail _ (.head _)))))).trans I.al.1
 ·rcases q with q | q <;> cases q
 ·refine .mk (dN aM.1 s3.self) (hb _ xj) (keep (fun w=>by rw [w,ty] at li; cases li) pM.1 li) hl fun y hy=>?_
  refine cps fun G_ g_=>?_
  obtain ⟨⟨kind,r,e,e2⟩,o2,o3,o4,o5⟩:=ok y hy
  refine g_ ?_
  clear g_
  refine ⟨⟨⟨kind,_,r,_,keep (fun w=>by rw [w,ty] at e; cases e) (I.pool.out o5).1 e,e2⟩,?_⟩,o2,((I.pool.gt _ o3).xj xj).up (k:=1)⟩
  obtain ⟨f',s',b',l',x',p',m',q',i',e'⟩:=o4
  obtain ⟨num,hg⟩:=lY (I.pool.gt _ o3)
  obtain ⟨f2,s2,b2,l2,x2,p2,m2,q2,i2,e2'⟩:=hg
  have e3:=dW e2' rfl
  rw [e'] at e3
  exact ⟨f',s',b',l',x',p',m',q',i',xj _ _ (dN e3.1 e') rfl⟩
theorem rWa (I:TI A Hs i ps es ns als ct k) (hi:i < 6) (B:A.B H ct k) (z:Fz [A.h,A.T,A.kd] Hs H) (hn:Hs[o]? = none) (ho:H[o]? = some (obF (bY 3 i) "proc" A.no false false .none))
  {Q:Fl × Env→Heap→Prop} (q:∀ H' x x13 x14,x.o = o→x.at_ = i→TO A Hs i ps es ns als ct k x H'→Q (.next,lwE A x10 x11 (some (.ref o)) x13 x14) H') :
  W (aJ (aC tbl (n + 2)) hOa (lwE A x10 x11 (some (.ref o)) x13 x14) H) Q:=by
 obtain ⟨n1,n2,n3,n4,n5,n6⟩:=B.ne
 have oM:=I.pool.out hn
 have hk:=I.k
 have hnew:=new_ (n:=n) (form:="proc") (size:=4) (mod:="M") (lab:=bY 3 i) (vs:=[.ref A.T,.str "proc",.int 4,.str "M",.str (bY 3 i)]) B.tys rfl (fun _=>rfl) (aG rfl) B.known (by exact lin [_] .x (.n 1000) [(.x,.n 900)] rfl hk) n6 rfl
 refine cW (fZ (E_p (aA rfl) ⟨k_inst B.tys,aD aB (aD aB (aD aB (aD (aF (aA rfl) ho rfl) (aK (hnew.mono fun v H2 N=>?_)))))⟩))
 refine cps fun G_ g_=>?_
 obtain ⟨a,rfl,N⟩:=N
 have B2:=B.new N
 obtain ⟨f,p,hid,t1,t2,t3,t4,t5,t6⟩:=N.ty
 refine g_ ?_
 clear g_
 have z2:Fz [A.h,A.T,A.kd] H H2:=N.fz.three
 have na:Hs[a]? = none:=B.fresh z N.fresh
 have np:Hs[p]? = none:=B.fresh z t5
 have aM:=I.pool.out na
 have o2:=z2 _ _ oM.2 ho
 refine E_p (aA rfl) (cZ o2 (aG rfl) fun H3 s3=>?_)
 have B3:A.B H3 (ct + 1) (k + 1):=B2.set s3 fun y hy w=>oM.1 (w ▸ Ad.mem hy)
 have z3:Fz [A.h,A.T,A.kd] Hs H3:=(z.trans z2).set s3 hn
 have hao:a ≠ o:=fun w=>by rw [w,o2] at t1; first | exact nos t1 | exact nof t1 | cases t1
 have hpo:p ≠ o:=fun w=>by rw [w,o2] at t3; first | exact nos t3 | exact nof t3 | cases t3
 have R:PF A Hs ct k i ps o a f p hid (bY 3 i) [] H3:=⟨B3,z3,s3.get hao t1,s3.get hpo t3,s3.self,fun _ h=>nomatch h⟩
 refine cY (oV (dO B3 (aA rfl) aB (by decide) fun H4 m hm S4 B4=>⟨m,rfl,by exact lin [_] .x (.n 1000) [(.a .x (.n 1),.n 4)] rfl (fX hm),?_⟩))
 have pM:=I.pool.out np
 have ne:∀ {y:Nat},y ∉ A.M→y ≠ A.h:=fun h w=>h (w ▸ Ad.mem (.inl rfl))
 have R4:PF A Hs ct k i ps o a f p hid (bY 3 i) [] H4:=⟨B4,z3.trans S4.fz,(S4 a (ne aM.1)).trans R.ty,(S4 p (ne pM.1)).trans R.li,(S4 o (ne oM.1)).trans R.ob,fun _ h=>nomatch h⟩
 refine pG (fun j env H'=>∃ zs y13 y14,zs.length = j∧env = lwE A x10 x11 (some (.ref o)) y13 y14∧PF A Hs ct k i ps o a f p hid (bY 3 i) zs H') ?_ ?_ ⟨[],x13,x14,rfl,rfl,R4⟩
 ·rintro j env H' hj ⟨zs,y13,y14,hl,rfl,R'⟩
  refine dM (env1:=lwE A x10 x11 (some (.ref o)) (some (.int j)) y14) rfl (uRa I.pool ⟨np,hn,na⟩ (by exact lin [_,_] (.a .x (.n 1)) (.n 3) [(.a .x (.n 1),.y),(.a .y (.n 1),.n 4)] rfl hj (fX hm)) hl R' fun H5 y z14 R5=>?_)
  exact ⟨zs ++ [y],_,z14,by rw [List.length_append,hl]; rfl,rfl,R5⟩
 ·rintro env H' ⟨zs,y13,y14,hl,rfl,R'⟩
  exact aZ (kOa (H1:=H') I ⟨np,hn,na⟩ (by exact lin [_,_] .x (.n 3) [(.x,.y),(.a .y (.n 1),.n 4)] rfl (Nat.le_of_eq hl) (fX hm)) R' fun H6 x e1 e2 t=>q H6 x _ _ e1 e2 t)
end
end Mine.C
end
section
namespace Mine.C
open PySem (Expr Stmt Str)
theorem aIa {M:List Nat} {Hs H:Heap} {o:Nat} (z:Fz M Hs H) (hn:Hs[o]? = none):Xj (mask M Hs) (mask (o :: M) H):=fun a x e j=>by
 obtain ⟨h1,h2⟩:=dW e j
 exact dN (fun q=>(List.mem_cons.mp q).elim (fun q=>by rw [q,hn] at h2; cases h2) h1) (z _ _ h1 h2)
theorem tQ {M:List Nat} {H:Heap} {o:Nat}:Xj (mask (o :: M) H) (mask M H):=fun a x e j=>by
 obtain ⟨h1,h2⟩:=dW e j
 exact dN (fun q=>h1 (.tail _ q)) h2
noncomputable abbrev TyQ (i kk:Nat) (ct ct':Int):Int→Str→Str→Str→V→Nat→Prop:=fun num _ mod lab _ _=>num ≤ ct'∧lJ (i + 1) lab∧(lab = bY kk i→mod = "M"∧ct < num)
structure TS (A:Ad) (Hs:Heap) (i kk o:Nat) (ct ct':Int) (k' t:Nat) (H:Heap):Prop where
 bld:A.B H ct' k'
 fz:Fz A.M Hs H
 same:H[A.ob]? = Hs[A.ob]?∧H[A.vd]? = Hs[A.vd]?
 ob:H[o]? = some (obF (bY kk i) (kS kk) t false false .none)
 gt:GT (mask (o :: A.M) H) (i + 1) t
 tw:TyW (mask (o :: A.M) H) t (TyQ i kk ct ct')
section
variable {A:Ad} {Hs H H':Heap} {i n o k k' kk t:Nat} {ps:List Nat} {es:List (Str × V)} {ns:List Int} {als:List Str} {ct ct':Int} {x10 x11 x13 x14:Option V}
theorem TS.chg {y:Nat} {x:O} (hoM:o ∉ A.M) (nod:A.M.Nodup) (S:TS A Hs i kk o ct ct' k' t H) (s:bQ H y x H') (hy:y = A.pl ∨ y = A.al ∨ y = A.oc):TS A Hs i kk o ct ct' k' t H':=by
 obtain ⟨⟨pb,pv,pa,po⟩,⟨bv,ba,bo⟩,⟨va,vo⟩,ao⟩:=five (Ad.last nod)
 have hyy:y ∈ [A.pl,A.ob,A.vd,A.al,A.oc]:=by rcases hy with rfl | rfl | rfl <;> simp
 have hM:y ∈ A.M:=List.mem_append_right [A.h,A.T,A.kd,A.c] hyy
 have hn:A.ob ≠ y∧A.vd ≠ y:=by
  clear ao bv po pa; rcases hy with rfl | rfl | rfl
  ·exact ⟨pb.symm,pv.symm⟩
  ·exact ⟨ba,va⟩
  ·exact ⟨bo,vo⟩
 have hm:∀ w:Nat,w = A.h ∨ w = A.c ∨ w = A.T ∨ w = A.kd→w ≠ y:=fun w hw =>
  (List.nodup_append.mp (show ([A.h,A.T,A.kd,A.c] ++ [A.pl,A.ob,A.vd,A.al,A.oc]).Nodup from nod)).2.2 w (by rcases hw with rfl | rfl | rfl | rfl <;> simp) y hyy
 have hz:=s.but.fz (M:=o :: A.M) (.tail _ hM)
 exact ⟨S.bld.set s hm,S.fz.trans (s.but.fz hM),⟨(s.other _ hn.1).trans S.same.1,(s.other _ hn.2).trans S.same.2⟩,s.get (fun w=>hoM (w ▸ hM)) S.ob,S.gt.xj hz.mask,S.tw.xj hz.mask⟩
theorem TS.typ {t':Nat} (hoM:o ∉ A.M) (hn:Hs[o]? = none) (B:A.B H ct' k') (z:Fz A.M Hs H) (e:H[A.ob]? = Hs[A.ob]?∧H[A.vd]? = Hs[A.vd]?) (s:bQ H o (obF (bY kk i) (kS kk) t' false false .none) H')
  (g:GT (mask (o :: A.M) H) (i + 1) t') (w:TyW (mask (o :: A.M) H) t' (TyQ i kk ct ct')):TS A Hs i kk o ct ct' k' t' H':=by
 have hz:=s.but.fz (M:=o :: A.M) (.head _)
 have hne:∀ {y:Nat},y ∈ A.M→y ≠ o:=fun h q=>hoM (q ▸ h)
 exact ⟨B.set s fun y hy=>hne (Ad.mem hy),z.set s hn,⟨(s.other _ (hne (by simp [Ad.M]))).trans e.1,(s.other _ (hne (by simp [Ad.M]))).trans e.2⟩,s.self,g.xj hz.mask,w.xj hz.mask⟩
theorem TS.done {ps':List Nat} {ns':List Int} {als':List Str} {al:Bool} (I:TI A Hs i ps es ns als ct k) (hkk:kk = 1 ∨ kk = 2) (hi:i < 6) (hoM:o ∉ A.M) (hc:ct ≤ ct') (hk':k' ≤ k + 1) (S:TS A Hs i kk o ct ct' k' t H) (pl:H[A.pl]? = some (.list ((ps ++ [t]).map V.ref)))
  (hal:H[A.al]? = some (.list ((als ++ if al = true then [bY kk i] else []).map V.str)) ) (hoc:H[A.oc]? = some (.list (ns'.map V.int))∧ns'.length ≤ ns.length + 1) (h1:kk = 2→al = false) (h2:∀ lab,eO (.ref t) 9 H = some (.str lab)→kk = 1→al = !decide (lab = bY kk i)):∃ x:Sh,x.o = o∧x.at_ = i∧TO A Hs i ps es ns als ct k x H:=by
 obtain ⟨B,z,e,ob,g,w⟩:=S
 have hb7:=B.ct
 have hb7':=I.bld.ct
 clear hi; cases w with
 | @mk num form size base len fs ps2 mod lab hid et q =>
 have h3:=h2 lab (cT (dW et rfl).2 rfl)
 have hx:Sh.sn ⟨o,i,kk,t,num,al,.none,""⟩ = if kk = 1 then num else -1:=rfl
 refine ⟨⟨o,i,kk,t,num,al,.none,""⟩,rfl,rfl,⟨z,⟨ct',k',hc,hk',B,?_,fun hal=>?_,_,pl,.inr ⟨t,rfl,g.xj tQ,⟨tQ _ _ et rfl,q.1,q.2.1⟩⟩⟩,e.1,⟨es,e.2.trans I.vd.1,Nat.le_succ _,fun _ _=>rfl,fun w=>?_⟩,hal,⟨ns',hoc.1,hoc.2⟩,⟨?_,dN hoM ob,fun w=>h1 (hkk.resolve_left w),fun w=>?_,fun _=>g.xj tQ,fun w=>?_,fun w=>?_⟩⟩⟩
 ·rw [hx]; split
  ·exact q.1
  ·exact Int.le_trans (by decide) hb7
 ·rw [hx]; split
  ·rename_i w
   clear hx hb7 g ob e z B h2 h1 hoc pl hk' hc hoM I; subst w
   have h3:=h3 rfl
   have hal:al = false:=hal
   rw [hal] at h3
   have:lab = bY 1 i:=by simpa using h3
   exact .inr (q.2.2 this).2
  ·exact .inl rfl
 ·have w:kk = 0:=w
  clear hx hb7 g ob e z B h2 h1 hoc hal pl hk' hc hoM I; rcases hkk with rfl | rfl <;> cases w
 ·show kk < 4
  clear hx hb7 g ob e z B h2 h1 hoc hal pl hk' hc hoM I; rcases hkk with rfl | rfl <;> decide
 ·have w:kk = 0:=w
  clear hx hb7 g ob e z B h2 h1 hoc hal pl hk' hc hoM I; rcases hkk with rfl | rfl <;> cases w
 ·have w:kk = 1:=w
  have h3:=h3 w
  clear hx hb7 g ob e z B h2 h1 hoc hal pl hk' hc hoM I; subst w
  refine ⟨tQ _ _ et rfl,rfl,fun a b=>?_,fun a=>?_⟩
  ·have a:al = true:=a
   rw [a,show lab = bY 1 i from b] at h3
   simp at h3
  ·have a:al = false:=a
   rw [a] at h3
   have b:lab = bY 1 i:=by simpa using h3
   exact ⟨b,(q.2.2 b).1,by have:=(q.2.2 b).2; exact zD_ hb7' this⟩
 ·have w:kk = 3:=w
  clear hx h3 q et hb7' hb7 g ob e z B h2 h1 hoc hal pl hk' hc hoM I; rcases hkk with rfl | rfl <;> cases w
end
end Mine.C
end
section
namespace Mine.C
open PySem (Expr Stmt Str)
noncomputable def vDa:ISs:=(.cons (.ite (.and (.val (.cmp .Eq (.loc 11) (.const (.str ("type"))))) (.val (.cmp .NotEq (.attr (.attr (.loc 12) 14) 9) (.attr (.loc 12) 12)))) (.cons (.expr (.bmeth .append (.loc 8) (.cons (.attr (.loc 12) 12) .nil))) .nil) .nil) .nil)
noncomputable def dLa:ISs:=(.cons (.expr (.bmeth .append (.loc 5) (.cons (.attr (.loc 12) 14) .nil))) vDa)
noncomputable def dFa:ISs:=(.cons (.ite (.and (.val (.cmp .Eq (.loc 11) (.const (.str ("type"))))) (.and (.val (.cmp .NotEq (.attr (.attr (.loc 12) 14) 9) (.attr (.loc 12) 12))) (.not (.val (.bmeth .startswith (.attr (.attr (.loc 12) 14) 9) (.cons (.const (.str ("T"))) .nil)))))) (.cons (.seta (.loc 12) 14 (.ite (.val (.cmp .In (.attr (.attr (.loc 12) 14) 0) (.loc 9))) (.attr (.loc 3) 34) (.attr (.loc 12) 14)))
 (.cons (.expr (.bmeth .append (.loc 9) (.cons (.attr (.attr (.loc 12) 14) 0) .nil)))
 .nil)) .nil) dLa)
theorem kS2:kS 2 ≠ "type":=by decide +kernel
section
variable {A:Ad} {Hs H H':Heap} {i n o k k' kk t:Nat} {ps:List Nat} {es:List (Str × V)} {ns ns':List Int} {als:List Str} {ct ct':Int} {x10 x13 x14:Option V}
theorem gEa {cf:aU} (I:TI A Hs i ps es ns als ct k) (hkk:kk = 1 ∨ kk = 2) (hi:i < 6) (hn:Hs[o]? = none) (hc:ct ≤ ct') (hk':k' ≤ k + 1) (S:TS A Hs i kk o ct ct' k' t H) (hpl:H[A.pl]? = some (.list (ps.map V.ref))) (hal:H[A.al]? = some (.list (als.map V.str))) (hoc:H[A.oc]? = some (.list (ns'.map V.int))∧ns'.length ≤ ns.length + 1)
  {Q:Fl × Env→Heap→Prop} (q:∀ H' x,x.o = o→x.at_ = i→TO A Hs i ps es ns als ct k x H'→Q (.next,lwE A x10 (some (.str (kS kk))) (some (.ref o)) x13 x14) H') :
  W (aJ cf dLa (lwE A x10 (some (.str (kS kk))) (some (.ref o)) x13 x14) H) Q:=by
 obtain ⟨⟨pb,pv,pa,po⟩,_,_,ao⟩:=five (Ad.last I.nod)
 have hoM:=(I.pool.out hn).1
 refine mQ (aA rfl) (aF (aA rfl) S.ob rfl) hpl (by have:=I.pool.len; rw [List.length_map]; exact lin [_] .x (.n 1000) [(.x,.n 900)] rfl this) fun H1 s1=>?_
 have S1:=S.chg hoM I.nod s1 (.inl rfl)
 have pl1:H1[A.pl]? = some (.list ((ps ++ [t]).map V.ref)):=by rw [s1.self,List.map_append]; rfl
 have al1:=s1.get pa.symm hal
 have oc1:=s1.get po.symm hoc.1
 clear s1 S
 have nil:als.map V.str = (als ++ if false = true then [bY kk i] else []).map V.str:=by simp
 rcases hkk with rfl | rfl
 ·obtain ⟨num,form,size,base,len,fs,ps2,mod,lab,hid,et⟩:∃ num form size base len fs ps2 mod lab hid,H1[t]? = some (tyF num form size base len fs ps2 mod lab hid):=by
   cases S1.tw with
   | mk e _=>exact ⟨_,_,_,_,_,_,_,_,_,_,(dW e rfl).2⟩
  have hty:PT cf (lwE A x10 (some (.str (kS 1))) (some (.ref o)) x13 x14) H1 (.val (.cmp .Eq (.loc 11) (.const (.str "type")))) true:=aO (aR (aA rfl) aB (congrArg some (decide_eq_true rfl)))
  have hlab:PT cf (lwE A x10 (some (.str (kS 1))) (some (.ref o)) x13 x14) H1 (.val (.cmp .NotEq (.attr (.attr (.loc 12) 14) 9) (.attr (.loc 12) 12))) (!decide (lab = bY 1 i)):=aO (aR (aF (aF (aA rfl) S1.ob rfl) et rfl) (aF (aA rfl) S1.ob rfl) rfl)
  have uniq:∀ {Hx:Heap},Hx[t]? = some (tyF num form size base len fs ps2 mod lab hid)→∀ lab',eO (.ref t) 9 Hx = some (.str lab')→lab' = lab:=fun e lab' h=>by
   rw [cT e rfl] at h; cases h; rfl
  refine gZ (gO hty hlab) (fun w=>?_) fun w=>bF (aX ?_)
  ·refine mQ (aA rfl) (aF (aA rfl) S1.ob rfl) al1 (by have:=I.al.2; rw [List.length_map]; exact lin [_] .x (.n 1000) [(.x,.n 10)] rfl this) fun H2 s2=>aX (aZ (aX ?_))
   obtain ⟨x,e1,e2,to⟩:=(S1.chg hoM I.nod s2 (.inr (.inl rfl))).done (al:=true) (als':=als) (ps':=ps) I (.inl rfl) hi hoM hc hk' (s2.get pa pl1) (by rw [s2.self,if_pos rfl,List.map_append]; rfl) ⟨s2.get ao.symm oc1,hoc.2⟩ (fun w=>nomatch w) fun lab' h _=>by
    rw [uniq (s2.get (fun q=>by rw [q,al1] at et; cases et) et) _ h,w]
   exact q _ x e1 e2 to
  ·obtain ⟨x,e1,e2,to⟩:=S1.done (al:=false) (als':=als) (ps':=ps) I (.inl rfl) hi hoM hc hk' pl1 (by rw [al1,nil]) ⟨oc1,hoc.2⟩ (fun _=>rfl) fun lab' h _=>by rw [uniq et _ h,w]
   exact q _ x e1 e2 to
 ·refine bH (jH (aO (aR (aA rfl) aB (congrArg some (decide_eq_false kS2))))) (bF (aX ?_))
  obtain ⟨x,e1,e2,to⟩:=S1.done (al:=false) (als':=als) (ps':=ps) I (.inr rfl) hi hoM hc hk' pl1 (by rw [al1,nil]) ⟨oc1,hoc.2⟩ (fun _=>rfl) fun _ _ w=>nomatch w
  exact q _ x e1 e2 to
theorem pWa {cf:aU} {env:Env} {r x:IE} {a:Nat} {m:Int} {ns:List Int} (h:PE cf env H x (.int m)) (h2:PE cf env H r (.ref a)) (g:H[a]? = some (.list (ns.map V.int))):PT cf env H (.val (.cmp .In x r)) ((ns.map V.int).any (isI m)) :=
 aO (aR h h2 (by
  show inI m H[a]? = _
  rw [g]
  exact kE (by rw [List.all_map]; exact List.all_eq_true.mpr fun _ _=>rfl) _))
theorem lCa {cf:aU} {env:Env} {e:IE} {s:Str} (h:PE cf env H e (.str s)):PE cf env H (.bmeth .startswith e (.cons (.const (.str "T")) .nil)) (.bool (decide (s.cps[0]? = ("T":Str).cps[0]?))) :=
 sV h rfl (vs:=[.str "T"]) rfl (cR (p:=("T":Str).length = 1) (by kernel_rfl) _)
theorem tBa {cf:aU} (I:TI A Hs i ps es ns als ct k) (hkk:kk = 1 ∨ kk = 2) (hi:i < 6) (hn:Hs[o]? = none) (hc:ct ≤ ct') (hk':k' ≤ k + 1) (S:TS A Hs i kk o ct ct' k' t H) (hpl:H[A.pl]? = some (.list (ps.map V.ref))) (hal:H[A.al]? = some (.list (als.map V.str))) (hoc:H[A.oc]? = some (.list (ns.map V.int)))
  {Q:Fl × Env→Heap→Prop} (q:∀ H' x,x.o = o→x.at_ = i→TO A Hs i ps es ns als ct k x H'→Q (.next,lwE A x10 (some (.str (kS kk))) (some (.ref o)) x13 x14) H') :
  W (aJ cf dFa (lwE A x10 (some (.str (kS kk))) (some (.ref o)) x13 x14) H) Q:=by
 obtain ⟨⟨pb,pv,pa,po⟩,_,_,ao⟩:=five (Ad.last I.nod)
 have hoM:=(I.pool.out hn).1
 have no:=gEa (cf:=cf) (x10:=x10) (x13:=x13) (x14:=x14) I hkk hi hn hc hk' S hpl hal ⟨hoc,Nat.le_succ _⟩ q
 rcases hkk with rfl | rfl
 ·obtain ⟨num,form,size,base,len,fs,ps2,mod,lab,hid,et⟩:∃ num form size base len fs ps2 mod lab hid,H[t]? = some (tyF num form size base len fs ps2 mod lab hid):=by
   cases S.tw with
   | mk e _=>exact ⟨_,_,_,_,_,_,_,_,_,_,(dW e rfl).2⟩
  have hty:PT cf (lwE A x10 (some (.str (kS 1))) (some (.ref o)) x13 x14) H (.val (.cmp .Eq (.loc 11) (.const (.str "type")))) true:=aO (aR (aA rfl) aB (congrArg some (decide_eq_true rfl)))
  have hat:∀ {m:Nat} {v},look m [(0,V.int num),(1,.str form),(2,.int size),(3,base),(4,.int len),(5,.ref fs),(6,.int 0),(7,.ref ps2),(8,.str mod),(9,.str lab),(10,.ref hid),(11,.int 0)] = some v→PE cf (lwE A x10 (some (.str (kS 1))) (some (.ref o)) x13 x14) H (.attr (.attr (.loc 12) 14) m) v:=fun h=>aF (aF (aA rfl) S.ob rfl) et h
  have hlab:PT cf (lwE A x10 (some (.str (kS 1))) (some (.ref o)) x13 x14) H (.val (.cmp .NotEq (.attr (.attr (.loc 12) 14) 9) (.attr (.loc 12) 12))) (!decide (lab = bY 1 i)):=aO (aR (hat rfl) (aF (aA rfl) S.ob rfl) rfl)
  have hst:=zW (aO (lCa (hat (m:=9) rfl)))
  have htest:∃ b,PT cf (lwE A x10 (some (.str (kS 1))) (some (.ref o)) x13 x14) H (.and (.val (.cmp .NotEq (.attr (.attr (.loc 12) 14) 9) (.attr (.loc 12) 12))) (.not (.val (.bmeth .startswith (.attr (.attr (.loc 12) 14) 9) (.cons (.const (.str ("T"))) .nil))))) b:=by
   cases hb:!decide (lab = bY 1 i) with
   | false=>exact ⟨_,jH (hb ▸ hlab)⟩
   | true=>exact ⟨_,gO (hb ▸ hlab) hst⟩
  obtain ⟨b,htest⟩:=htest
  refine gZ (gO hty htest) (fun _=>?_) fun _=>bF no
  have B:=S.bld
  have hval:∃ t',PE cf (lwE A x10 (some (.str (kS 1))) (some (.ref o)) x13 x14) H (.ite (.val (.cmp .In (.attr (.attr (.loc 12) 14) 0) (.loc 9))) (.attr (.loc 3) 34) (.attr (.loc 12) 14)) (.ref t')∧GT (mask (o :: A.M) H) (i + 1) t'∧TyW (mask (o :: A.M) H) t' (TyQ i 1 ct ct'):=by
   have hin:=pWa (r:=.loc 9) (hat (m:=0) rfl) (aA rfl) hoc
   cases hb:(ns.map V.int).any (isI num) with
   | false=>exact ⟨t,gK (hb ▸ hin) (aF (aA rfl) S.ob rfl),S.gt,S.tw⟩
   | true =>
    have bi:=I.bas.i.xj (aIa S.fz hn)
    have gi:=GT.up (d:=0) (k:=i + 1) (bi.gt (s:="INTEGER") (by decide) (by kernel_rfl) (aN (by kernel_rfl)))
    rw [Nat.zero_add] at gi
    refine ⟨A.it,kZ (hb ▸ hin) (aF (aA rfl) B.tys rfl),gi,bi.tyw fun _=>⟨?_,.lit (.inl rfl) _,fun w=>absurd w.symm (pQ 1 (by decide) i hi).1⟩⟩
    have:=I.bld.ct
    exact Int.le_trans (by decide) (Int.le_trans this hc)
  obtain ⟨t',hv,g',w'⟩:=hval
  refine cB hv (aA rfl) S.ob (aG rfl) fun H1 s1=>?_
  have S1:=TS.typ hoM hn B S.fz S.same s1 g' w'
  obtain ⟨num',form',size',base',len',fs',ps2',mod',lab',hid',et'⟩:∃ num form size base len fs ps2 mod lab hid,H1[t']? = some (tyF num form size base len fs ps2 mod lab hid):=by
   cases S1.tw with
   | mk e _=>exact ⟨_,_,_,_,_,_,_,_,_,_,(dW e rfl).2⟩
  have ne:∀ {y:Nat},y ∈ A.M→y ≠ o:=fun h w=>hoM (w ▸ h)
  refine mQ (aA rfl) (aF (aF (aA rfl) s1.self rfl) et' rfl) (s1.get (ne (by simp [Ad.M])) hoc) (by have:=I.oc.2; rw [List.length_map]; exact lin [_] .x (.n 1000) [(.x,.n 10)] rfl this) fun H2 s2=>aX (aZ ?_)
  have S2:=S1.chg hoM I.nod s2 (.inr (.inr rfl))
  exact gEa (ns':=ns ++ [num']) I (.inl rfl) hi hn hc hk' S2 (s2.get po (s1.get (ne (by simp [Ad.M])) hpl)) (s2.get ao (s1.get (ne (by simp [Ad.M])) hal)) ⟨by rw [s2.self,List.map_append]; rfl,by rw [List.length_append]; exact Nat.le_refl _⟩ q
 ·exact bH (jH (aO (aR (aA rfl) aB (congrArg some (decide_eq_false kS2))))) (bF no)
end
end Mine.C
end
section
namespace Mine.C
open PySem (Expr Stmt Str)
noncomputable def dVa:ISs:=(.cons (.seta (.loc 12) 14 (.call .lmade (.cons (.loc 2) (.cons (.loc 3) (.cons (.loc 5) (.cons (.attr (.loc 12) 12) .nil)))))) dFa)
section
variable {A:Ad} {Hs H H':Heap} {i n o k k' kk t:Nat} {ps:List Nat} {es:List (Str × V)} {ns ns':List Int} {als:List Str} {ct ct':Int} {x10 x11 x13 x14:Option V}
theorem dG.maskO {d:Nat} (P:dG A.M Hs A.h A.T A.kd A.pl d ps) (z:Fz [A.h,A.T,A.kd] Hs H) (hn:Hs[o]? = none) (ho:∃ x,H[o]? = some x) (h:∀ y ∈ A.M,∃ o,H[y]? = some o):dG (o :: A.M) H A.h A.T A.kd A.pl d ps:=by
 have P1:=P.fz z h
 exact ⟨P1.at_,P1.ne,fun x hx=>.tail _ (P1.sub x hx),fun x hx=>(List.mem_cons.mp hx).elim (fun w=>w ▸ ho) (h x),fun a ha=>(P.gt a ha).xj (aIa (z.sub Ad.hTk) hn),P1.len,P1.rcd⟩
theorem oMa (I:TI A Hs i ps es ns als ct k) (hkk:kk = 1 ∨ kk = 2) (hi:i < 6) (B:A.B H ct k) (z:Fz [A.h,A.T,A.kd] Hs H) (hn:Hs[o]? = none) (ho:H[o]? = some (obF (bY kk i) (kS kk) A.no false false .none))
  {Q:Fl × Env→Heap→Prop} (q:∀ H' x,x.o = o→x.at_ = i→TO A Hs i ps es ns als ct k x H'→Q (.next,lwE A x10 (some (.str (kS kk))) (some (.ref o)) x13 x14) H') :
  W (aJ (aC tbl (n + 3)) dVa (lwE A x10 (some (.str (kS kk))) (some (.ref o)) x13 x14) H) Q:=by
 have now:=I.now B z
 have P1:=dG.maskO I.pool z hn ⟨_,ho⟩ now
 have oM:=I.pool.out hn
 have hkk4:kk < 4:=by rcases hkk with rfl | rfl <;> decide
 refine cW (bO (aD (aA rfl) (aD (aA rfl) (aD (aA rfl) (aD (aF (aA rfl) ho rfl) (aK ((uSa (M:=o :: A.M) (.tail _ (Ad.mem (.inr (.inl rfl)))) B I.k P1 ?_).mono fun v H1 r=>?_)))))))
 ·intro x hx H1 S1 h1
  by_cases w:x = A.h
  ·obtain ⟨ns',pos,rest,seed,Hd⟩:=h1
   exact ⟨_,w ▸ Hd.hand⟩
  ·rw [S1 x w]
   exact (List.mem_cons.mp hx).elim (fun w=>⟨_,w ▸ ho⟩) (now x)
 obtain ⟨a,rfl,z1,⟨ct',k',c1,c2,B1,old⟩,g⟩:=r
 have z':=z.trans z1
 have here:=I.here z'
 refine E_p (aA rfl) (cZ (z1 _ _ oM.2 ho) (aG rfl) fun H2 s2=>?_)
 have tw:TyW (mask (o :: A.M) H1) a (TyQ i kk ct ct'):=by
  rcases old with ha | ⟨na,num,form,size,base,len,fs,p,hid,e,n1,n2⟩
  ·exact (I.pl a ha).mono (fun x e j=>aIa (z'.sub Ad.hTk) hn _ _ e j) fun num form mod lab base ps q=>⟨Int.le_trans q.1 c1,q.2.up,fun w=>absurd w (q.2 kk i hkk4 hi (Nat.le_refl i))⟩
  ·refine ⟨dN (fun w=>?_) e,n2,.new hkk4 hi,fun _=>⟨rfl,n1⟩⟩
   rcases List.mem_cons.mp w with w | w
   ·rw [w,ho] at na; first | exact nos na | exact nof na | cases na
   ·obtain ⟨x,e⟩:=now a w; rw [e] at na; first | exact nos na | exact nof na | cases na
 have S:=TS.typ (t':=a) oM.1 hn B1 (z'.sub Ad.hTk) ⟨here _ (by simp),here _ (by simp)⟩ s2 g tw
 have ne:∀ {y:Nat},y ∈ A.M→y ≠ o:=fun h w=>oM.1 (w ▸ h)
 exact tBa I hkk hi hn c1 c2 S (s2.get (ne (by simp [Ad.M])) ((here _ (by simp)).trans I.pool.at_)) (s2.get (ne (by simp [Ad.M])) ((here _ (by simp)).trans I.al.1)) (s2.get (ne (by simp [Ad.M])) ((here _ (by simp)).trans I.oc.1)) q
end
end Mine.C
end
section
namespace Mine.C
open PySem (Expr Stmt Str)
noncomputable abbrev fU (ob im:Nat):O:=.inst .ifc [(12,.str "M"),(23,.int 1),(24,.ref ob),(25,.ref im)]
inductive Imp (H:Heap) (sh ob im:Nat) (imp:Bool):Prop where
 | mk {ts:List Nat}:H[sh]? = some (fU ob im)→H[im]? = some (.list (ts.map V.ref))→ts.length = (if imp = true then 1 else 0)→(∀ t ∈ ts,H[t]? = some (.tuple [.str "N",.int 7]))→Imp H sh ob im imp
theorem Imp.xj {H H':Heap} {sh ob im:Nat} {imp:Bool} (x:Xj H H') (h:Imp H sh ob im imp):Imp H' sh ob im imp:=by
 cases h with
 | mk a b c d=>exact .mk (x _ _ a rfl) (x _ _ b rfl) c fun t ht=>x _ _ (d t ht) rfl
inductive LW (A:Ad) (imp:Bool) (i:Nat) (xs:List Sh) (H:Heap):Prop where
 | mk {ps:List Nat} {es:List (Str × V)} {ns:List Int} {ct:Int} {k:Nat}:TI A H i ps es ns ((xs.filter (·.al)).map Sh.name) ct k→k ≤ 8 + i∧ps.length ≤ 4 + i∧es.length ≤ i∧ns.length ≤ i→H[A.ob]? = some (.list (xs.map fun x=>.ref x.o))→xs.map Sh.at_ = List.range i →
   (∀ x ∈ xs,gG (mask A.M H) i x∧x.sn ≤ ct∧(x.kd = 0→look x.name es = some (.str x.w)))→xs.Pairwise (fun x y=>x.sn = y.sn→8 ≤ x.sn→y.al = true)→Imp (mask A.M H) A.sh A.ob A.im imp→LW A imp i xs H
theorem tJa {kk:Nat} (h:kk < 4):((place (kk:Int) [V.str "const",V.str "type",V.str "var",V.str "proc"].length).bind fun j=>[V.str "const",V.str "type",V.str "var",V.str "proc"][j]?) = some (.str (kS kk)):=by
 rcases k4 kk h with rfl | rfl | rfl | rfl <;> rfl
theorem pJa {H:Heap} {a kk:Nat} (h:kk < 4) (g:H[a]? = some (.list [.str "const",.str "type",.str "var",.str "proc"])) {Q:V→Heap→Prop} (q:Q (.int kk) H):W (dI .index (.ref a) [.str (kS kk)] H) Q:=by
 show W ((cN H[a]?).bind fun us=>aP (us.all qD) ((idxOf (kS kk) us).map fun (i:Nat)=>(V.int (i:Int),H))) Q
 rw [g]
 have e:idxOf (kS kk) [.str "const",.str "type",.str "var",.str "proc"] = some kk:=by rcases k4 kk h with rfl | rfl | rfl | rfl <;> kernel_rfl
 show W ((idxOf (kS kk) [.str "const",.str "type",.str "var",.str "proc"]).map _) Q
 rw [e]; exact q
theorem nCa {kk:Nat} (h:kk < 4):subV (.str "cTvP") (.int kk) [] = some (.str (kL kk)):=by rcases k4 kk h with rfl | rfl | rfl | rfl <;> kernel_rfl
theorem vVa {kk:Nat} (h:kk < 4):SL 1 (kL kk):=by rcases k4 kk h with rfl | rfl | rfl | rfl <;> exact aN (by kernel_rfl)
theorem jTa {i:Nat} {xs:List Sh} {x:Sh} (h:xs.map Sh.at_ = List.range i) (hx:x.at_ = i):(xs ++ [x]).map Sh.at_ = List.range (i + 1):=by
 rw [List.map_append,h,List.range_succ,← hx]; rfl
theorem nO {i:Nat} {xs:List Sh} (h:xs.map Sh.at_ = List.range i) {x:Sh} (hx:x ∈ xs):x.at_ < i:=by
 have:x.at_ ∈ List.range i:=h ▸ List.mem_map.mpr ⟨x,hx,rfl⟩
 exact List.mem_range.mp this
theorem wIa {xs:List Sh} {x:Sh}:((xs ++ [x]).filter (·.al)).map Sh.name = (xs.filter (·.al)).map Sh.name ++ if x.al = true then [x.name] else []:=by
 rw [List.filter_append,List.map_append]
 refine congrArg _ ?_
 rw [List.filter_cons]
 cases x.al <;> rfl
theorem LW.next {A:Ad} {imp:Bool} {i:Nat} {xs:List Sh} {Hs H H':Heap} {ps:List Nat} {es:List (Str × V)} {ns:List Int} {ct:Int} {k:Nat} {x:Sh} (hi:i < 6) (I:TI A Hs i ps es ns ((xs.filter (·.al)).map Sh.name) ct k) (hb:k ≤ 8 + i∧ps.length ≤ 4 + i∧es.length ≤ i∧ns.length ≤ i) (hat:xs.map Sh.at_ = List.range i)
  (hx:∀ x ∈ xs,gG (mask A.M Hs) i x∧x.sn ≤ ct∧(x.kd = 0→look x.name es = some (.str x.w))) (hp:xs.Pairwise fun x y=>x.sn = y.sn→8 ≤ x.sn→y.al = true) (im:Imp (mask A.M Hs) A.sh A.ob A.im imp) (e:x.at_ = i) (T:TO A Hs i ps es ns ((xs.filter (·.al)).map Sh.name) ct k x H) (s:bQ H A.ob (.list (xs.map (fun x=>.ref x.o) ++ [.ref x.o])) H'):LW A imp (i + 1) (xs ++ [x]) H':=by
 refine cps fun G_ g_=>?_
 obtain ⟨z,⟨ct',k',c1,c2,B,sn1,sn2,ps',pl,hps⟩,ob,⟨es',vd,vl,vo,vn⟩,al,⟨ns',oc,on⟩,it⟩:=T
 obtain ⟨⟨pb,pv,pa,po⟩,⟨bv,ba,bo⟩,_,_⟩:=five (Ad.last I.nod)
 refine g_ ?_
 clear g_
 have bM:A.ob ∈ A.M:=by simp [Ad.M]
 have zs:Fz A.M H H':=s.but.fz bM
 have xj:=zs.mask
 have xjs:=(z.trans zs).mask
 have off:=Ad.off I.nod A.ob (.tail _ (.tail _ (.head _)))
 have gt1:∀ t,GT (mask A.M Hs) i t→GT (mask A.M H') (i + 1) t:=fun t g=>(g.xj xjs).up (k:=1)
 have hnew:x.name = bY x.kd i:=by unfold Sh.name; rw [e]
 have hne:∀ y ∈ xs,y.name ≠ x.name:=fun y hy q=>by
  have h1:=nO hat hy
  have:=(yH y.kd (hx y hy).1.kd x.kd it.kd y.at_ (Nat.lt_trans h1 hi) i hi (by rw [← hnew]; exact q)).1
  exact rB [_,_] [(.a .x (.n 1),.y),(.y,.x)] rfl h1 (Nat.le_of_eq this.symm)
 have hM:∀ w:Nat,w = A.h ∨ w = A.c ∨ w = A.T ∨ w = A.kd→w ≠ A.ob:=fun w hw =>
  (List.nodup_append.mp (show ([A.h,A.T,A.kd,A.c] ++ [A.pl,A.ob,A.vd,A.al,A.oc]).Nodup from I.nod)).2.2 w (by rcases hw with rfl | rfl | rfl | rfl <;> simp) _ (.tail _ (.head _))
 have B':A.B H' ct' k':=B.set s hM
 have hex:∀ y ∈ A.M,∃ o,H'[y]? = some o:=fun y hy=>by
  by_cases w:y = A.ob
  ·exact ⟨_,w ▸ s.self⟩
  ·rw [s.other y w]
   rcases List.mem_append.mp (show y ∈ [A.h,A.T,A.kd,A.c] ++ [A.pl,A.ob,A.vd,A.al,A.oc] from hy) with hy | hy
   ·obtain ⟨_,_,_,_,Hd⟩:=B.hand
    rcases List.mem_cons.mp hy with rfl | hy
    ·exact ⟨_,Hd.hand⟩
    rcases List.mem_cons.mp hy with rfl | hy
    ·exact ⟨_,B.tys⟩
    rcases List.mem_cons.mp hy with rfl | hy
    ·exact B.known.here
    ·rw [List.mem_singleton.mp hy]; exact ⟨_,Hd.cells⟩
   ·rcases List.mem_cons.mp hy with rfl | hy
    ·exact ⟨_,pl⟩
    rcases List.mem_cons.mp hy with rfl | hy
    ·exact absurd rfl w
    rcases List.mem_cons.mp hy with rfl | hy
    ·exact ⟨_,vd⟩
    rcases List.mem_cons.mp hy with rfl | hy
    ·exact ⟨_,al⟩
    ·rw [List.mem_singleton.mp hy]; exact ⟨_,oc⟩
 have hpool:(∀ a ∈ ps',GT (mask A.M H') (i + 1) a∧PL (mask A.M H') ct' (i + 1) a)∧ps'.length ≤ 4 + (i + 1)∧∀ a ∈ ps,a ∈ ps':=by
  have old:∀ a ∈ ps,GT (mask A.M H') (i + 1) a∧PL (mask A.M H') ct' (i + 1) a:=fun a ha=>⟨gt1 a (I.pool.gt a ha),(I.pl a ha).xj xjs c1⟩
  rcases hps with rfl | ⟨t,rfl,g,p⟩
  ·exact ⟨old,by exact lin [_,_] .x (.a (.n 4) (.a .y (.n 1))) [(.x,.a (.n 4) .y)] rfl hb.2.1,fun _ h=>h⟩
  ·refine ⟨fun a ha=>(List.mem_append.mp ha).elim (old a) fun ha=>?_,by rw [List.length_append]; show ps.length + 1 ≤ _; exact lin [_,_] (.a .x (.n 1)) (.a (.n 4) (.a .y (.n 1))) [(.x,.a (.n 4) .y)] rfl hb.2.1,fun a ha=>List.mem_append_left _ ha⟩
   rw [List.mem_singleton.mp ha]
   exact ⟨g.xj xj,p.mono (fun o e j=>xj _ o e j) fun _ _ _ _ _ _ q=>q⟩
 have hal:H'[A.al]? = some (.list ((((xs ++ [x]).filter (·.al)).map Sh.name).map V.str)):=by
  rw [s.other _ ba.symm,al,wIa]
 refine .mk (ps:=ps') (es:=es') (ns:=ns') (ct:=ct') (k:=k') ⟨B',by exact lin [_,_,_] .x (.n 900) [(.x,.a .y (.n 1)),(.y,.a (.n 8) .z),(.a .z (.n 1),.n 6)] rfl c2 hb.1 hi,⟨s.get pb pl,I.pool.ne,I.pool.sub,hex,fun a ha=>(hpool.1 a ha).1,by have:=hpool.2.1; exact lin [_,_] .x (.n 900) [(.x,.a (.n 4) (.a .y (.n 1))),(.a .y (.n 1),.n 6)] rfl hpool.2.1 hi,?_⟩,I.bas.xj xjs,I.nod,fun a ha=>(hpool.1 a ha).2,⟨_,s.self⟩,⟨s.get bv.symm vd,by exact lin [_,_,_] .x (.n 10) [(.x,.a .y (.n 1)),(.y,.z),(.a .z (.n 1),.n 6)] rfl vl hb.2.2.1 hi⟩,⟨hal,?_⟩,⟨s.get bo.symm oc,by exact lin [_,_,_] .x (.n 10) [(.x,.a .y (.n 1)),(.y,.z),(.a .z (.n 1),.n 6)] rfl on hb.2.2.2 hi⟩⟩
  ⟨by exact lin [_,_,_] .x (.a (.n 8) (.a .y (.n 1))) [(.x,.a .z (.n 1)),(.z,.a (.n 8) .y)] rfl c2 hb.1,hpool.2.1,by exact lin [_,_,_] .x (.a .y (.n 1)) [(.x,.a .z (.n 1)),(.z,.y)] rfl vl hb.2.2.1,by exact lin [_,_,_] .x (.a .y (.n 1)) [(.x,.a .z (.n 1)),(.z,.y)] rfl on hb.2.2.2⟩ (by rw [s.self,List.map_append]; rfl) (jTa hat e) (fun y hy=>?_) ?_ (im.xj xjs)
 ·obtain ⟨a,ha,hr⟩:=I.pool.rcd
  refine ⟨a,hpool.2.2 a ha,?_⟩
  obtain ⟨num,f,s',b,l,y,p,m,q,j,e'⟩:=lY (I.pool.gt a ha)
  have e1:=(dW e' rfl).2
  have e2:=(dW (xjs _ _ e' rfl) rfl).2
  unfold fG at hr ⊢
  rw [cT e1 rfl] at hr
  rw [cT e2 rfl]
  exact hr
 ·rw [List.length_map]
  refine Nat.le_trans (List.length_filter_le _ _) ?_
  have:=congrArg List.length hat
  rw [List.length_map,List.length_range] at this
  rw [List.length_append]
  show xs.length + 1 ≤ 10
  exact lin [_,_] (.a .x (.n 1)) (.n 10) [(.x,.y),(.a .y (.n 1),.n 6)] rfl (Nat.le_of_eq this) hi
 ·rcases List.mem_append.mp hy with hy | hy
  ·obtain ⟨h1,h2,h3⟩:=hx y hy
   exact ⟨h1.xj xjs gt1,Int.le_trans h2 c1,fun w=>by rw [vo _ (hne y hy)]; exact h3 w⟩
  ·rw [List.mem_singleton.mp hy]
   exact ⟨it.xj xj fun t g=>g.xj xj,sn1,vn⟩
 ·refine List.pairwise_append.mpr ⟨hp,List.pairwise_singleton _ _,fun y hy w hw q h8=>?_⟩
  rw [List.mem_singleton.mp hw] at q ⊢
  cases hc:x.al with
  | true=>rfl
  | false =>
   have:=(hx y hy).2.1
   rcases sn2 hc with h | h
   ·rw [q,h] at h8; exact absurd h8 (by decide)
   ·exact (Int.lt_irrefl _ (Int.lt_of_lt_of_le h (q ▸ this))).elim
end Mine.C
end
section
namespace Mine.C
open PySem (Expr Stmt Str)
noncomputable def iPa:IE:=(.make .ob .initOb (.cons (.bin .Add (.sub (.const (.str ("cTvP"))) (.bmeth .index (.list (.cons (.const (.str ("const"))) (.cons (.const (.str ("type"))) (.cons (.const (.str ("var"))) (.cons (.const (.str ("proc"))) .nil))))) (.cons (.loc 11) .nil))) (.blt .str (.cons (.loc 10) .nil))) (.cons (.loc 11) (.cons (.attr (.loc 3) 37) (.cons (.const (.int (0))) .nil)))))
noncomputable def pMa:ISs:=(.cons (.seti (.loc 7) (.attr (.loc 12) 12) (.call .lconstant (.cons (.loc 2) (.cons (.loc 3) (.cons (.loc 12) .nil))))) .nil)
noncomputable def mGa:IS:=(.ite (.val (.cmp .Eq (.loc 11) (.const (.str ("const"))))) pMa (.cons (.ite (.val (.cmp .Eq (.loc 11) (.const (.str ("proc"))))) hOa dVa) .nil))
noncomputable def wC:ISs:=(.cons (.setl 11 (.sub (.list (.cons (.const (.str ("const"))) (.cons (.const (.str ("type"))) (.cons (.const (.str ("var"))) (.cons (.const (.str ("proc"))) .nil))))) (.call .pick (.cons (.loc 2) (.cons (.const (.int (4))) .nil)))))
 (.cons (.setl 12 iPa) (.cons mGa (.cons (.expr (.bmeth .append (.attr (.loc 6) 24) (.cons (.loc 12) .nil))) .nil))))
section
variable {A:Ad} {imp:Bool} {i n k:Nat} {xs:List Sh} {H:Heap} {ct:Int} {x11 x12 x13 x14:Option V}
theorem qAa {kk:Nat} (hk:kk < 4) (hi:i < 6) (B:A.B H ct k) {Q:V→Heap→Prop} (q:∀ o H',Ext H H'→H[o]? = none→H'[o]? = some (obF (bY kk i) (kS kk) A.no false false .none)→Q (.ref o) H'):W (aH (aC tbl (n + 1)) (lwE A (some (.int i)) (some (.str (kS kk))) x12 x13 x14) iPa H) Q:=by
 refine fYa (cF (bW (gC (E_p aB (fO (bU (aD aB (aD aB (aD aB (aD aB (aK (bJ (aG rfl) fun b H1 x1 g1 m1=>⟨lU (.inr rfl) g1,aD (aA rfl) (aK (pJa hk g1 (wOa (nCa hk) ?_)))⟩))))))))))))
 have hs:PE (aC tbl (n + 1)) (lwE A (some (.int i)) (some (.str (kS kk))) x12 x13 x14) H1 (.blt .str (.cons (.loc 10) .nil)) (.str (toString (i:Int):String)):=jX (aA rfl) (by exact ⟨Int.natCast_nonneg _,dD (b:=10000000000) (lin [_] (.a .x (.n 1)) (.n 10000000000) [(.a .x (.n 1),.n 6)] rfl hi)⟩)
 with_reducible refine E_p hs (cH (vVa hk) (jJ i (by with_unfolding_all exact lin [_] (.a .x (.n 1)) (.n 2000) [(.a .x (.n 1),.n 6)] rfl hi)) (by with_unfolding_all rfl) ?_)
 refine aD (aA rfl) (aD (aF (aA rfl) (x1.get B.tys) rfl) (aD aB (aK ⟨_,_,_,rfl,rN g1,fun o H2 x2 m2 g2=>q o H2 (x1.trans x2) (x1.none m2) g2⟩)))
theorem kS0 {kk:Nat} (h:kk < 4):decide (kS kk = "const") = decide (kk = 0)∧decide (kS kk = "proc") = decide (kk = 3):=by
 rcases k4 kk h with rfl | rfl | rfl | rfl <;> exact ⟨by kernel_rfl,by kernel_rfl⟩
theorem tRa (L:LW A imp i xs H) (hi:i < 6) {Q:Fl × Env→Heap→Prop} (q:∀ H' x y11 y12 y13 y14,LW A imp (i + 1) (xs ++ [x]) H'→Q (.next,lwE A (some (.int i)) y11 y12 y13 y14) H'):W (aJ (aC tbl (n + 4)) wC (lwE A (some (.int i)) x11 x12 x13 x14) H) Q:=by
 refine cps fun G kG=>?_
 cases L with
 | @mk ps es ns ct k I hb hob hat hx hp im =>
 have B:=I.bld
 refine kG (bC (gC (bU (aD aB (aD aB (aD aB (aD aB (aK (bJ (aG rfl) fun tb H1 x1 g1 m1=>dO (B.ext x1) (aA rfl) aB (by decide) fun H2 kk hk S2 B2=>?_)))))))))
 have htb:tb ≠ A.h:=(B.off m1 _ (.inl rfl)).symm
 have hk4:kk < 4:=Int.ofNat_lt.mp hk
 refine lK ((S2 tb htb).trans g1) (tJa hk4) (bC (qAa hk4 hi B2 fun o H3 x3 m3 g3=>?_))
 have z2:Fz [A.h,A.T,A.kd] H H2:=x1.fz.trans S2.fz
 have z3:Fz [A.h,A.T,A.kd] H H3:=z2.trans x3.fz
 have hn:H[o]? = none:=B2.fresh z2 m3
 have B3:A.B H3 ct k:=B2.ext x3
 have fin:∀ H' x y13 y14,x.o = o→x.at_ = i→TO A H i ps es ns ((xs.filter (·.al)).map Sh.name) ct k x H'→W (aJ (aC tbl (n + 4)) (.cons (.expr (.bmeth .append (.attr (.loc 6) 24) (.cons (.loc 12) .nil))) .nil) (lwE A (some (.int i)) (some (.str (kS kk))) (some (.ref o)) y13 y14) H') Q:=fun H' x y13 y14 e1 e2 T=>by
  clear z2 x3 htb S2 m1 g1 x1 B kG; subst e1
  have hsh:H'[A.sh]? = some (fU A.ob A.im):=by
   cases im with
   | mk a _ _ _=>exact T.fz _ _ (dW a rfl).1 (dW a rfl).2
  have hlen:=congrArg List.length hat
  rw [List.length_map,List.length_range] at hlen
  refine mQ (aF (aA rfl) hsh rfl) (aA rfl) (T.ob.trans hob) (by rw [List.length_map]; exact lin [_,_] .x (.n 1000) [(.x,.y),(.a .y (.n 1),.n 6)] rfl (Nat.le_of_eq hlen) hi) fun H5 s5=>aX (q H5 x _ _ _ _ (LW.next hi I hb hat hx hp im e2 T s5))
 have e:=kS0 hk4
 have hc:PT (aC tbl (n + 4)) (lwE A (some (.int i)) (some (.str (kS kk))) (some (.ref o)) x13 x14) H3 (.val (.cmp .Eq (.loc 11) (.const (.str "const")))) (decide (kk = 0)):=aO (aR (aA rfl) aB (congrArg some e.1))
 have hp':PT (aC tbl (n + 4)) (lwE A (some (.int i)) (some (.str (kS kk))) (some (.ref o)) x13 x14) H3 (.val (.cmp .Eq (.loc 11) (.const (.str "proc")))) (decide (kk = 3)):=aO (aR (aA rfl) aB (congrArg some e.2))
 refine gZ hc (fun w=>?_) fun w=>?_
 ·have w:=of_decide_eq_true w
  clear hc e z2 x3 hk4 htb S2 m1 g1 x1 B im hp hx hat hob hb kG q; subst w
  exact nBa I B3 z3 hn (fun y hy w=>B2.off m3 y hy w) g3 fun H' x e1 e2 T=>aZ (fin H' x _ _ e1 e2 T)
 ·refine gZ hp' (fun w3=>?_) fun w3=>?_
  ·have w:=of_decide_eq_true w3
   clear hp' hc e z2 m3 x3 hk4 htb B2 S2 m1 g1 x1 B im hp hx hat hob hb kG q; subst w
   exact rWa (n:=n + 2) I hi B3 z3 hn g3 fun H' x y13 y14 e1 e2 T=>aZ (aX (aZ (fin H' x y13 y14 e1 e2 T)))
  ·have h12:kk = 1 ∨ kk = 2:=by
    have a:=of_decide_eq_false w
    have b:=of_decide_eq_false w3
    exact d4b _ (fX (b:=4) hk) a b
   exact oMa (n:=n + 1) I h12 hi B3 z3 hn g3 fun H' x e1 e2 T=>aZ (aX (aZ (fin H' x _ _ e1 e2 T)))
theorem LW.pick {H':Heap} {ps:List Nat} {es:List (Str × V)} {ns:List Int} (I:TI A H i ps es ns ((xs.filter (·.al)).map Sh.name) ct k) (hb:k ≤ 8 + i∧ps.length ≤ 4 + i∧es.length ≤ i∧ns.length ≤ i) (hob:H[A.ob]? = some (.list (xs.map fun x=>.ref x.o))) (hat:xs.map Sh.at_ = List.range i)
  (hx:∀ x ∈ xs,gG (mask A.M H) i x∧x.sn ≤ ct∧(x.kd = 0→look x.name es = some (.str x.w))) (hp:xs.Pairwise fun x y=>x.sn = y.sn→8 ≤ x.sn→y.al = true) (im:Imp (mask A.M H) A.sh A.ob A.im imp) (S:fM H A.h H') (B':A.B H' ct k):LW A imp i xs H':=by
 have z:Fz [A.h,A.T,A.kd] H H':=S.fz
 have here:=I.here z
 have xj:=(z.sub Ad.hTk).mask
 exact .mk ⟨B',I.k,I.pool.fz z (I.now B' z),I.bas.xj xj,I.nod,fun a ha=>TyW.xj xj (I.pl a ha),by rw [here _ (by simp)]; exact I.ob,⟨(here _ (.tail _ (.tail _ (.tail _ (.head _))))).trans I.vd.1,I.vd.2⟩,⟨(here _ (.tail _ (.tail _ (.tail _ (.tail _ (.head _)))))).trans I.al.1,I.al.2⟩,⟨(here _ (.tail _ (.tail _ (.tail _ (.tail _ (.tail _ (.head _))))))).trans I.oc.1,I.oc.2⟩⟩ hb
  ((here _ (by simp)).trans hob) hat (fun x h=>⟨(hx x h).1.xj xj fun t g=>g.xj xj,(hx x h).2⟩) hp (im.xj xj)
theorem qBa {r:ISs} {x10:Option V} (L:LW A imp 0 [] H) {Q:Fl × Env→Heap→Prop} (q:∀ H' xs y10 y11 y12 y13 y14,LW A imp xs.length xs H'→xs.length ≤ 6→W (aJ (aC tbl (n + 4)) r (lwE A y10 y11 y12 y13 y14) H') Q) :
  W (aJ (aC tbl (n + 4)) (.cons (.for [10] false (.range (.call .pick (.cons (.loc 2) (.cons (.const (.int (7))) .nil)))) wC) r) (lwE A x10 x11 x12 x13 x14) H) Q:=by
 refine cps fun G kG=>?_
 cases L with
 | @mk ps es ns ct k I hb hob hat hx hp im =>
 refine kG (cY (oV (dO I.bld (aA rfl) aB (by decide) fun H2 m hm S2 B2=>⟨m,rfl,by exact lin [_] .x (.n 1000) [(.a .x (.n 1),.n 7)] rfl (fX hm),?_⟩)))
 have L2:=LW.pick I hb hob hat hx hp im S2 B2
 clear I hb hob hat hx hp im B2
 refine pG (fun j env H'=>∃ xs y10 y11 y12 y13 y14,xs.length = j∧env = lwE A y10 y11 y12 y13 y14∧LW A imp j xs H') ?_ ?_ ⟨[],x10,x11,x12,x13,x14,rfl,rfl,L2⟩
 ·rintro j env H' hj ⟨xs,y10,y11,y12,y13,y14,hl,rfl,L'⟩
  refine dM (env1:=lwE A (some (.int j)) y11 y12 y13 y14) rfl (tRa L' (by exact lin [_,_] (.a .x (.n 1)) (.n 6) [(.a .x (.n 1),.y),(.a .y (.n 1),.n 7)] rfl hj (fX hm)) fun H5 x z11 z12 z13 z14 L5=>?_)
  exact ⟨xs ++ [x],_,_,_,_,_,by rw [List.length_append,hl]; rfl,rfl,L5⟩
 ·rintro env H' ⟨xs,y10,y11,y12,y13,y14,hl,rfl,L'⟩
  clear L2 S2 kG; subst hl
  exact aZ (q H' xs _ _ _ _ _ L' (by exact lin [_] .x (.n 6) [(.a .x (.n 1),.n 7)] rfl (fX hm)))
end
end Mine.C
end
section
namespace Mine.C
open PySem (Expr Stmt Str)
structure dF (H:Heap) (l:List Nat):Prop where
 nod:l.Nodup
 ex:∀ x ∈ l,∃ o,H[x]? = some o
theorem dF.new {H H':Heap} {l:List Nat} {a:Nat} {o:O} (L:dF H l) (e:Ext H H') (n:H[a]? = none) (g:H'[a]? = some o):dF H' (a :: l) :=
 ⟨List.nodup_cons.mpr ⟨fun h=>(by obtain ⟨x,q⟩:=L.ex a h; rw [n] at q; cases q),L.nod⟩,fun x hx=>(List.mem_cons.mp hx).elim (fun w=>⟨_,w ▸ g⟩) fun hx=>(L.ex x hx).imp fun _ q=>e.get q⟩
theorem dF.keep {H H':Heap} {l:List Nat} (L:dF H l) (e:∀ x:Nat,(∃ o:O,H[x]? = some o)→∃ o:O,H'[x]? = some o):dF H' l:=⟨L.nod,fun x hx=>e x (L.ex x hx)⟩
theorem rHa {H:Heap} {a n:Nat} {Q:V→Heap→Prop} (ha:H[a]? = some (.inst .ifc [])) (q:∀ H' ob im,But a H H'→H'[a]? = some (fU ob im)→H'[ob]? = some (.list [])→H'[im]? = some (.list [])→H[ob]? = none→H[im]? = none→ob ≠ im→Q .none H'):W (aC tbl (n + 1) .initIfc [.ref a,.str "M",.int 1] H) Q:=by
 refine bK (env:=[some (.ref a),some (.str "M"),some (.int 1),none,none,none,none]) rfl ?_
 refine cB (aA rfl) (aA rfl) ha (aG rfl) fun H1 s1=>?_
 refine cB (aA rfl) (aA rfl) s1.self (aG rfl) fun H2 s2=>?_
 refine pD (fun _=>aA rfl) s2.self (aG rfl) fun ob H3 H4 x3 g3 m3 s4=>?_
 refine pD (fun _=>aA rfl) s4.self (aG rfl) fun im H5 H6 x5 g5 m5 s6=>?_
 have hob:ob ≠ a:=(bV s2.self m3).symm
 have him:im ≠ a:=(bV s4.self m5).symm
 have b2:=s1.but.trans s2.but
 refine aX (qG (q H6 ob im (b2.trans (x3.but.trans (s4.but.trans (x5.but.trans s6.but)))) s6.self (s6.get hob (x5.get (s4.get hob g3))) (s6.get him g5) ?_ ?_ (bV (s4.get hob g3) m5)))
 ·clear s6 g5 x5 g3 s2 s1 q ha; cases w:H[ob]? with
  | none=>rfl
  | some o=>rw [b2 ob o hob w] at m3; first | exact nos m3 | exact nof m3 | cases m3
 ·clear hob s6 g5 x5 m3 g3 s2 s1 q ha; cases w:H[im]? with
  | none=>rfl
  | some o=>rw [(b2.trans (x3.but.trans s4.but)) im o him w] at m5; first | exact nos m5 | exact nof m5 | cases m5
theorem yO {n:Nat} {env:Env} {c:Cls} {f:F} {as:IEs} {H:Heap} {Q:V→Heap→Prop} (h:W (bN (aC tbl n) env as H) fun vs H1=>H1 ≠ []∧∀ a H2,Ext H1 H2→H1[a]? = none→H2[a]? = some (.inst c [])→W (aC tbl n f (.ref a :: vs) H2) fun r H3=>r = .none∧Q (.ref a) H3):W (aH (aC tbl n) env (.make c f as) H) Q :=
 tO (h.mono fun vs H1 k=>⟨k.1,k.2 H1.length _ (nA H1 _) (pY H1) (oF H1 _)⟩)
noncomputable def rE (_ c:Nat) (x2 x3 x4 x5 x6 x7 x8 x9:Option V):Env:=[none,some (.ref c),x2,x3,x4,x5,x6,x7,x8,x9,none,none,none,none,none,none,none,none,none,none,none,none,none,none,none,none]
noncomputable def iLa (r:ISs):ISs:=(.cons (.setl 2 (.list (.cons (.loc 1) (.cons (.const (.int (0))) (.cons (.const (.int (0))) (.cons (.bin .Mult (.bin .Mod (.blt .sum (.cons (.loc 1) .nil)) (.const (.int (100003)))) (.const (.int (7)))) .nil))))))
 (.cons (.setl 3 (.make .tys .initTys .nil))
 (.cons (.setl 4 (.ometh .new .tys (.loc 3) (.cons (.const (.str ("record"))) (.cons (.const (.int (4))) (.cons (.const (.str ("N"))) (.cons (.const (.str ("R"))) .nil))))))
 (.cons (.setl 5 (.list (.cons (.attr (.loc 3) 34) (.cons (.attr (.loc 3) 32) (.cons (.attr (.loc 3) 35) (.cons (.loc 4) .nil)))))) r))))
inductive S5 (s c:Nat) (env:Env) (H:Heap):Prop where
 | mk {h T ot pl kd bo ch by_ it ma ni no f p hid:Nat}:env = rE s c (some (.ref h)) (some (.ref T)) (some (.ref ot)) (some (.ref pl)) none none none none→Bld H h c T kd 8 8 bo ch by_ it ma ni no→bL H bo 1 "boolean" 1→bL H ch 2 "char" 1→bL H it 4 "integer" 4→bL H ma 5 "set" 4→bL H no 7 "none" 0 →
   H[ot]? = some (tyF 8 "record" 4 .none 0 f p "N" "R" hid)→H[pl]? = some (.list [.ref it,.ref ch,.ref ma,.ref ot])→dF H [pl,kd,T,h,c]→S5 s c env H
theorem tGa {H:Heap} {s c n:Nat} {ns:List Int} {r:ISs} {Q:Fl × Env→Heap→Prop} (hc:H[c]? = some (.list (ns.map V.int))) (q:∀ env H',S5 s c env H'→W (aJ (aC tbl (n + 3)) r env H') Q):W (aJ (aC tbl (n + 3)) (iLa r) (rE s c none none none none none none none none) H) Q:=by
 have hsum:lW .sum [.ref c] H = some (.int ns.sum,H):=by
  have:W (lW .sum [.ref c] H) fun v H'=>v = .int ns.sum∧H' = H:=sNa hc ⟨rfl,rfl⟩
  obtain ⟨a,H1,e,rfl,rfl⟩:=this.run
  exact e
 have hm:=tL ns.sum (k:=100003) (by decide)
 have hsm:small (Int.fmod ns.sum 100003) = true:=decide_eq_true (by exact vQ hm.1 hm.2 (by decide))
 refine bC (bU (aD (aA rfl) (aD aB (aD aB (aD (dJ (dJ (uP (aA rfl) hsum) aB (qW (by decide))) aB (hHa hsm (by decide))) (aK (bJ (aG rfl) fun h H1 x1 g1 m1=>?_)))))))
 have L1:dF H1 [h,c]:=dF.new (l:=[c]) ⟨List.nodup_cons.mpr ⟨fun w=>(nomatch w),List.nodup_nil⟩,fun x hx=>⟨_,(List.mem_singleton.mp hx) ▸ hc⟩⟩ x1 m1 g1
 have c1:=x1.get hc
 refine bC (yO (aK ⟨rN g1,fun T H2 x2 m2 g2=>uJa g2 fun H3 kd bo ch by_ it ma ni no b3 nk hkT tys kn b1 b2 b4 b5 b7 off=>⟨rfl,?_⟩⟩))
 have e13:Ext H1 H3:=(x2.but.trans b3).fresh m2
 have L2:dF H2 [T,h,c]:=L1.new x2 m2 g2
 have L3:dF H3 [kd,T,h,c]:=by
  obtain ⟨o,eo⟩:=kn.here
  refine ⟨List.nodup_cons.mpr ⟨fun w=>?_,L2.nod⟩,fun x hx=>?_⟩
  ·clear g2 m2 x2 L1 m1 x1 hsm hsum hc; obtain ⟨o',e⟩:=L2.ex kd w; rw [nk] at e; first | exact nos e | exact nof e | cases e
  ·clear nk g2 m2 x2 L1 m1 x1 hsm hsum hc; rcases List.mem_cons.mp hx with rfl | hx
   ·exact ⟨_,eo⟩
   ·clear eo; by_cases w:x = T
    ·exact ⟨_,w ▸ tys⟩
    ·obtain ⟨o',e⟩:=L2.ex x hx; exact ⟨_,b3 x o' w e⟩
 have hand:pU H3 h c:=⟨ns,0,0,_,e13.get g1,e13.get c1,Nat.zero_le _,Int.le_refl _,zT_ hm⟩
 have B3:Bld H3 h c T kd 7 7 bo ch by_ it ma ni no:=⟨hand,tys,kn,Int.le_refl _⟩
 have hne:T ≠ kd:=hkT.symm
 have hnew:=new_ (n:=n + 1) (form:="record") (size:=4) (mod:="N") (lab:="R") (vs:=[.ref T,.str "record",.int 4,.str "N",.str "R"]) tys rfl (fun _=>rfl) (aG rfl) kn (aG rfl) hne rfl
 refine bC (fZ (E_p (aA rfl) ⟨k_inst tys,aD aB (aD aB (aD aB (aD aB (aK (hnew.mono fun v H4 N=>?_)))))⟩))
 clear hnew hne hand L2 e13 kn hkT nk b3 g2 m2 x2 c1 L1 m1 g1 x1 hsm hm hsum hc; obtain ⟨ot,rfl,N⟩:=N
 have B4:=B3.new N
 obtain ⟨f,p,hid,t1,_⟩:=N.ty
 have z4:=N.fz
 have L4:dF H4 [kd,T,h,c]:=L3.keep fun x ⟨o,e⟩=>by
  clear B3 L3; by_cases w:x ∈ [T,kd]
  ·rcases List.mem_cons.mp w with rfl | w
   ·exact ⟨_,N.tys⟩
   ·rw [List.mem_singleton.mp w]; exact N.known.here
  ·exact ⟨_,z4 x o w e⟩
 refine bC (bU (aD (aF (aA rfl) B4.tys rfl) (aD (aF (aA rfl) B4.tys rfl) (aD (aF (aA rfl) B4.tys rfl) (aD (aA rfl) (aK (bJ (aG rfl) fun pl H5 x5 g5 m5=>?_)))))))
 have e:∀ {a:Nat} {num size:Int} {form:Str},bL H3 a num form size→a ∉ [T,kd]→bL H5 a num form size:=fun b m=>b.fz (z4.trans x5.fz) m
 exact q _ H5 (.mk rfl (B4.ext x5) (e b1 off.1) (e b2 off.2.1) (e b4 off.2.2.1) (e b5 off.2.2.2.1) (e b7 off.2.2.2.2) (x5.get t1) g5 (L4.new x5 m5 g5))
end Mine.C
end
section
namespace Mine.C
open PySem (Expr Stmt Str)
noncomputable def bAa (r:ISs):ISs:=(.cons (.setl 7 (.dict [] .nil)) (.cons (.setl 8 (.list .nil)) (.cons (.setl 9 (.list .nil)) r)))
noncomputable def cGa (r:ISs):ISs:=(.cons (.setl 6 (.make .ifc .initIfc (.cons (.const (.str ("M"))) (.cons (.const (.int (1))) .nil))))
 (.cons (.ite (.val (.cmp .Eq (.call .pick (.cons (.loc 2) (.cons (.const (.int (2))) .nil))) (.const (.int (1))))) (.cons (.seta (.loc 6) 25 (.list (.cons (.tuple (.cons (.const (.str ("N"))) (.cons (.const (.int (7))) .nil))) .nil)))
 .nil) .nil) (bAa r)))
section
variable {s c h T ot pl kd bo ch by_ it ma ni no f p hid n:Nat} {H:Heap} {r:ISs} {Q:Fl × Env→Heap→Prop}
theorem wNa {A:Ad} (h:[A.oc,A.al,A.vd,A.ob,A.pl,A.kd,A.T,A.h,A.c].Nodup):A.M.Nodup :=
 (List.perm_middle (l₁:=[A.h,A.T,A.kd]) (l₂:=[A.pl,A.ob,A.vd,A.al,A.oc]) (a:=A.c)).nodup_iff.mpr ((List.reverse_perm [A.oc,A.al,A.vd,A.ob,A.pl,A.kd,A.T,A.h,A.c]).nodup_iff.mpr h)
theorem dF.new2 {H H':Heap} {l:List Nat} {a b:Nat} {o o':O} (L:dF H l) (e:Ext H H') (n:H[a]? = none) (m:H[b]? = none) (w:a ≠ b) (g:H'[a]? = some o) (g':H'[b]? = some o'):dF H' (b :: a :: l) :=
 have L1:=L.new e n g
 ⟨List.nodup_cons.mpr ⟨fun h=>(List.mem_cons.mp h).elim (fun q=>w q.symm) fun h=>(by obtain ⟨x,q⟩:=L.ex b h; rw [m] at q; cases q),L1.nod⟩,fun x hx=>(List.mem_cons.mp hx).elim (fun w=>⟨_,w ▸ g'⟩) (L1.ex x)⟩
theorem fGa {A:Ad} {x:Nat} (h:x ∈ A.M):x ∈ [A.oc,A.al,A.vd] ∨ x ∈ [A.ob,A.pl,A.kd,A.T,A.h,A.c]:=by
 rcases List.mem_append.mp (show x ∈ [A.h,A.T,A.kd,A.c,A.pl,A.ob] ++ [A.vd,A.al,A.oc] from h) with h | h
 ·exact .inr (List.mem_reverse.mp (by
   rcases List.mem_append.mp (show x ∈ [A.h,A.T,A.kd] ++ [A.c,A.pl,A.ob] from h) with h | h
   ·exact List.mem_append_left [A.pl,A.ob] (List.mem_cons_of_mem A.c h)
   ·rcases List.mem_cons.mp h with rfl | h
    ·exact .head _
    ·exact List.mem_append_right [A.c,A.h,A.T,A.kd] h))
 ·exact .inl (List.mem_reverse.mp h)
theorem qXa {sh ob im:Nat} {ts:List Nat} {imp:Bool} (B:Bld H h c T kd 8 8 bo ch by_ it ma ni no) (b1:bL H bo 1 "boolean" 1) (b2:bL H ch 2 "char" 1) (b4:bL H it 4 "integer" 4) (b5:bL H ma 5 "set" 4) (b7:bL H no 7 "none" 0)
  (hot:H[ot]? = some (tyF 8 "record" 4 .none 0 f p "N" "R" hid)) (hpl:H[pl]? = some (.list [.ref it,.ref ch,.ref ma,.ref ot])) (L:dF H [im,ob,pl,kd,T,h,c]) (hsh:H[sh]? = some (fU ob im)) (hob:H[ob]? = some (.list [])) (him:H[im]? = some (.list (ts.map V.ref))) (hts:ts.length = (if imp = true then 1 else 0)∧∀ t ∈ ts,H[t]? = some (.tuple [.str "N",.int 7]))
  (q:∀ A H',LW A imp 0 [] H'→A.s = s→A.c = c→W (aJ (aC tbl n) r (lwE A none none none none none) H') Q) :
  W (aJ (aC tbl n) (bAa r) (rE s c (some (.ref h)) (some (.ref T)) (some (.ref ot)) (some (.ref pl)) (some (.ref sh)) none none none) H) Q:=by
 refine bC (iU (aK (lE (by decide) fun vd H1 x1 g1 m1=>bC (bU (aK (bJ (aG rfl) fun al H2 x2 g2 m2=>bC (bU (aK (bJ (aG rfl) fun oc H3 x3 g3 m3=>?_)))))))))
 have g1:H1[vd]? = some (.dict []):=g1
 have L3:=((L.new x1 m1 g1).new x2 m2 g2).new x3 m3 g3
 have e:Ext H H3:=x1.trans (x2.trans x3)
 let A:Ad:=⟨s,c,h,T,ot,pl,sh,ob,im,vd,al,oc,kd,bo,ch,by_,it,ma,ni,no⟩
 have B3:A.B H3 8 8:=B.ext e
 have nod:A.M.Nodup:=wNa (L3.nod.sublist (List.Sublist.cons_cons _ (List.Sublist.cons_cons _ (List.Sublist.cons_cons _ (List.Sublist.cons _ (List.Sublist.refl _))))))
 have imM:im ∉ A.M:=fun w=>by
  have n3:=(List.nodup_append.mp (show ([oc,al,vd] ++ [im,ob,pl,kd,T,h,c]).Nodup from L3.nod)).2
  clear m3 m2 m1 x1 L B; rcases fGa w with w | w
  ·exact n3.2 im w im (.head _) rfl
  ·exact (List.nodup_cons.mp n3.1).1 w
 have g1':=(x2.trans x3).get g1
 have g2':=x3.get g2
 have no:∀ {x:Nat} {o:O},H3[x]? = some o→sY o = false→x ∉ A.M:=fun hx hc=>no9 (A:=A) hx hc B3 fun y hy=>by
  clear hc g1 m3 x3 m2 g2 x2 m1 x1 L B; rcases List.mem_cons.mp hy with rfl | hy
  ·exact ⟨_,e.get hpl,rfl⟩
  clear g1; rcases List.mem_cons.mp hy with rfl | hy
  ·exact ⟨_,e.get hob,rfl⟩
  rcases List.mem_cons.mp hy with rfl | hy
  ·exact ⟨_,g1',rfl⟩
  rcases List.mem_cons.mp hy with rfl | hy
  ·exact ⟨_,g2',rfl⟩
  ·rw [List.mem_singleton.mp hy]; exact ⟨_,g3,rfl⟩
 have bm:∀ {a:Nat} {num size:Int} {form:Str},bL H a num form size→a ∉ A.M∧bL (mask A.M H3) a num form size:=fun ⟨f,p,q,w⟩=>⟨no (e.get w) rfl,f,p,q,dN (no (e.get w) rfl) (e.get w)⟩
 have h2:∀ {x:Nat},x ∉ A.M→x ∉ [h,T,kd]:=fun hx w=>hx (Ad.hTk (A:=A) _ w)
 have otm:=dN (no (e.get hot) rfl) (e.get hot)
 have bg:∀ {a:Nat} {num size:Int} {form s:Str},bL (mask A.M H3) a num form size→num < 8→look form bEs = some (.str s)→SL 7 s→GT (mask A.M H3) 0 a∧PL (mask A.M H3) 8 0 a:=fun w hn h1 h2=>⟨w.gt hn h1 h2,w.tyw fun _=>⟨Int.le_of_lt hn,.lit (.inl rfl) 0⟩⟩
 have gts:∀ a ∈ [it,ch,ma,ot],GT (mask A.M H3) 0 a∧PL (mask A.M H3) 8 0 a:=fun a ha=>by
  clear g1 m3 x3 m2 g2 x2 m1 x1 L B; rcases List.mem_cons.mp ha with rfl | ha
  ·exact bg (s:="INTEGER") (bm b4).2 (by decide) (by kernel_rfl) (aN (by kernel_rfl))
  clear g1; rcases List.mem_cons.mp ha with rfl | ha
  ·exact bg (s:="CHAR") (bm b2).2 (by decide) (by kernel_rfl) (aN (by kernel_rfl))
  rcases List.mem_cons.mp ha with rfl | ha
  ·exact bg (s:="SET") (bm b5).2 (by decide) (by kernel_rfl) (aN (by kernel_rfl))
  ·rw [List.mem_singleton.mp ha]
   exact ⟨.other otm (by decide),otm,by decide,.lit (.inr rfl) 0⟩
 refine q A H3 (.mk (ps:=[it,ch,ma,ot]) (es:=[]) (ns:=[]) (ct:=8) (k:=8) ⟨B3,by decide,⟨e.get hpl,Ad.off nod _ (.tail _ (.head _)),Ad.hTk,fun x hx=>?_,fun a ha=>(gts a ha).1,aG rfl,⟨ot,by simp,?_⟩⟩,⟨(bm b1).2,(bm b2).2,(bm b4).2,(bm b5).2,(bm b7).2,fun x hx=>?_⟩,nod,fun a ha=>(gts a ha).2,⟨_,e.get hob⟩,⟨g1',by decide⟩,⟨g2',by decide⟩,⟨g3,by decide⟩⟩
  ⟨aG rfl,aG rfl,aG rfl,aG rfl⟩ (e.get hob) rfl (fun x hx=>nomatch hx) List.Pairwise.nil (.mk (dN (no (e.get hsh) rfl) (e.get hsh)) (dN imM (e.get him)) hts.1 fun t ht=>dN (no (e.get (hts.2 t ht)) rfl) (e.get (hts.2 t ht)))) rfl rfl
 ·refine L3.ex x ((fGa hx).elim (fun w=>List.mem_append_left [im,ob,pl,kd,T,h,c] w) fun w=>List.mem_append_right [oc,al,vd,im] w)
 ·unfold fG
  rw [cT (e.get hot) rfl]; rfl
 ·clear gts bg otm no g2' g1' imM nod B3 e L3 g1 m3 g3 x3 m2 g2 x2 m1 x1 q hts him hob hsh L hpl hot B; rcases List.mem_cons.mp hx with rfl | hx
  ·exact h2 (bm b1).1
  clear g1 b1; rcases List.mem_cons.mp hx with rfl | hx
  ·exact h2 (bm b2).1
  clear b2; rcases List.mem_cons.mp hx with rfl | hx
  ·exact h2 (bm b4).1
  clear b4; rcases List.mem_cons.mp hx with rfl | hx
  ·exact h2 (bm b5).1
  ·rw [List.mem_singleton.mp hx]; exact h2 (bm b7).1
theorem oRa {env:Env} (S:S5 s c env H) (q:∀ A imp H',LW A imp 0 [] H'→A.s = s→A.c = c→W (aJ (aC tbl (n + 1)) r (lwE A none none none none none) H') Q):W (aJ (aC tbl (n + 1)) (cGa r) env H) Q:=by
 cases S with
 | @mk h T ot pl kd bo ch by_ it ma ni no f p hid he B b1 b2 b4 b5 b7 hot hpl L =>
 subst he
 refine bC (yO (aD aB (aD aB (aK ⟨rN hpl,fun sh H1 x1 n1 g1=>rHa g1 fun H2 ob im b2' g2 gob gim nob gim' hoi=>⟨rfl,?_⟩⟩))))
 have e2:Ext H H2:=(x1.but.trans b2').fresh n1
 have B2:=B.ext e2
 have lift:∀ {a:Nat} {num size:Int} {form:Str} {H':Heap},Ext H H'→bL H a num form size→bL H' a num form size:=fun e ⟨f,p,q,w⟩=>⟨f,p,q,e.get w⟩
 have L2:=L.new2 e2 (x1.none nob) (x1.none gim') hoi gob gim
 have shh:sh ≠ h:=fun w=>by obtain ⟨_,_,_,_,Hd⟩:=B2.hand; rw [w,Hd.hand] at g2; first | exact nos g2 | exact nof g2 | cases g2
 have go:∀ {Hx:Heap} {im':Nat} {ts:List Nat} {imp:Bool},(∀ {x:Nat} {o:O},x ≠ h→x ≠ sh→H2[x]? = some o→Hx[x]? = some o)→Bld Hx h c T kd 8 8 bo ch by_ it ma ni no→Hx[sh]? = some (fU ob im')→dF Hx [im',ob,pl,kd,T,h,c]→Hx[im']? = some (.list (ts.map V.ref))→(ts.length = (if imp = true then 1 else 0)∧∀ t ∈ ts,Hx[t]? = some (.tuple [.str "N",.int 7])) →
   W (aJ (aC tbl (n + 1)) (bAa r) (rE s c (some (.ref h)) (some (.ref T)) (some (.ref ot)) (some (.ref pl)) (some (.ref sh)) none none none) Hx) Q:=fun {Hx im' ts imp} keep B' hsh LL him hts=>by
  have lift:∀ {a:Nat} {num size:Int} {form:Str},bL H a num form size→bL Hx a num form size:=fun {a} {num} {size} {form} ⟨f,p,q,w⟩=>⟨f,p,q,keep (fun v=>by obtain ⟨_,_,_,_,Hd⟩:=B.hand; rw [v,Hd.hand] at w; cases w) (fun v=>by rw [v,n1] at w; cases w) (e2.get w)⟩
  have nin:=(List.nodup_cons.mp LL.nod).2
  have hh:ob ≠ h∧pl ≠ h:=⟨fun v=>(List.nodup_cons.mp nin).1 (v ▸ by simp),fun v=>(List.nodup_cons.mp (List.nodup_cons.mp nin).2).1 (v ▸ by simp)⟩
  refine qXa B' (lift b1) (lift b2) (lift b4) (lift b5) (lift b7) (keep (fun v=>by obtain ⟨_,_,_,_,Hd⟩:=B.hand; rw [v,Hd.hand] at hot; cases hot) (fun v=>by rw [v,n1] at hot; cases hot) (e2.get hot)) (keep hh.2 (fun v=>by rw [v,n1] at hpl; cases hpl) (e2.get hpl)) LL hsh (keep hh.1 (fun v=>by rw [v,g2] at gob; cases gob) gob) him hts fun A H'=>q A imp H'
 refine fH (fK (fW (dO B2 (aA rfl) aB (by decide) fun H3 i hi S3 B3=>E_p aB (zF (iC ⟨fun _=>?_,fun _=>bF (go (imp:=false) (ts:=[]) (fun h1 _ e=>(S3 _ h1).trans e) B3 ((S3 sh shh).trans g2) (L2.keep fun x ⟨o,e⟩=>?_) ((S3 im ?_).trans gim) ⟨rfl,fun t ht=>nomatch ht⟩)⟩)))))
 ·have L3:dF H3 [ob,pl,kd,T,h,c]:=dF.keep (H:=H2) ⟨(List.nodup_cons.mp L2.nod).2,fun x hx=>L2.ex x (.tail _ hx)⟩ fun x ⟨o,e⟩=>by
   clear hi lift B2 e2 hoi gim' nob gim gob b2' g1 x1 L hpl hot b7 b5 b4 b2 b1 q; by_cases w:x = h
   ·obtain ⟨_,_,_,_,Hd⟩:=B3.hand; exact ⟨_,w ▸ Hd.hand⟩
   ·exact ⟨o,(S3 x w).trans e⟩
  refine cW (bU (cF (fV (aD aB (aD aB (aK (iM (aG rfl) fun tu H4 x4 g4 m4=>aK (bJ (aG rfl) fun im' H5 x5 g5 m5=>?_))))))))
  have sh5:=(x4.trans x5).get ((S3 sh shh).trans g2)
  refine E_p (aA rfl) (cZ sh5 (aG rfl) fun H6 s6=>aX (aZ ?_))
  have k5:∀ {x:Nat} {o:O},x ≠ h→x ≠ sh→H2[x]? = some o→H6[x]? = some o:=fun h1 h2 e=>s6.get h2 ((x4.trans x5).get ((S3 _ h1).trans e))
  have B6:Bld H6 h c T kd 8 8 bo ch by_ it ma ni no:=(B3.ext (x4.trans x5)).set s6 fun y hy v=>by
   exact B.off n1 y hy v
  have him:im' ≠ sh:=(bV (x4.get ((S3 sh shh).trans g2)) m5).symm
  have htu:tu ≠ sh:=(bV ((S3 sh shh).trans g2) m4).symm
  refine go (imp:=true) (ts:=[tu]) k5 B6 s6.self ((L3.new (H':=H5) (x4.trans x5) (x4.none m5) g5).keep fun x ⟨o,e⟩=>?_) (s6.get him g5) ⟨rfl,fun t ht=>by rw [List.mem_singleton.mp ht]; exact s6.get htu (x5.get g4)⟩
  clear htu him B6 k5 sh5 m5 g5 x5 m4 g4 x4 L3 hi go shh lift B2 e2 hoi gim' nob gim gob g2 b2' g1 n1 x1 L hpl hot b7 b5 b4 b2 b1 B q; by_cases w:x = sh
  ·exact ⟨_,w ▸ s6.self⟩
  ·exact ⟨o,s6.get w e⟩
 ·clear hi go shh lift B2 e2 hoi gim' nob gim gob g2 b2' g1 n1 x1 L hpl hot b7 b5 b4 b2 b1 B q; by_cases w:x = h
  ·obtain ⟨_,_,_,_,Hd⟩:=B3.hand; exact ⟨_,w ▸ Hd.hand⟩
  ·exact ⟨o,(S3 x w).trans e⟩
 ·exact fun v=>(List.nodup_cons.mp L2.nod).1 (v ▸ by simp)
end
end Mine.C
end
section
namespace Mine.C
open PySem (Expr Stmt Str)
noncomputable def ent (x:Sh):Str × V:=(x.name,.int x.sn)
noncomputable def nmT (l:List Sh) (k:Int):Option Str:=(l.find? fun x=>decide (x.sn = k)).map Sh.name
noncomputable def keep (p:Nat) (x:Sh):Bool:=decide (x.at_ < p) || !x.al
theorem yU {k:Int}:∀ l:List Sh,fnd k (l.map ent) = nmT l k
 | []=>rfl
 | x :: l=>by
  unfold nmT
  rw [List.find?_cons]
  show (if intOf (.int x.sn) = k then some x.name else fnd k (l.map ent)) = _
  by_cases h:x.sn = k
  ·rw [decide_eq_true h]; exact if_pos h
  ·rw [decide_eq_false h]; exact (if_neg h).trans (yU l)
theorem xF {l:List Sh} {x:Sh} {k:Int}:nmT (l ++ [x]) k = (nmT l k).or (if x.sn = k then some x.name else none):=by
 unfold nmT
 rw [List.find?_append,List.find?_cons]
 cases l.find? fun x=>decide (x.sn = k) with
 | some y=>rfl
 | none =>
  by_cases h:x.sn = k
  ·rw [if_pos h,decide_eq_true h]; rfl
  ·rw [if_neg h,decide_eq_false h]; rfl
noncomputable abbrev pC (l:List Sh):Prop:=l.Pairwise fun x y=>x.sn = y.sn→8 ≤ x.sn→y.al = true
theorem yD {k:Int} (hk:8 ≤ k):∀ {l:List Sh},pC l→(l.find? fun x=>decide (x.sn = k)) = ((l.filter fun x=>!x.al) ++ l.filter fun x=>x.al).find? fun x=>decide (x.sn = k)
 | [],_=>rfl
 | x :: l,h=>by
  obtain ⟨h1,h2⟩:=List.pairwise_cons.mp h
  have ih:=yD hk h2
  rw [List.find?_append] at ih ⊢
  clear h2 h; cases ha:x.al with
  | false =>
   rw [List.filter_cons_of_pos (by rw [ha]; rfl),List.filter_cons_of_neg (p:=fun x:Sh=>x.al) (by rw [ha]; exact fun q=>nomatch q),List.find?_cons,List.find?_cons]
   cases hp:decide (x.sn = k) with
   | true=>rfl
   | false=>exact ih
  | true =>
   rw [List.filter_cons_of_neg (by rw [ha]; exact fun q=>nomatch q),List.filter_cons_of_pos (p:=fun x:Sh=>x.al) ha,List.find?_cons,List.find?_cons]
   clear ha; cases hp:decide (x.sn = k) with
   | false=>exact ih
   | true =>
    have hn:(l.filter fun x=>!x.al).find? (fun x=>decide (x.sn = k)) = none:=List.find?_eq_none.mpr fun y hy q=>by
     obtain ⟨hy,hb⟩:=List.mem_filter.mp hy
     have e:=of_decide_eq_true hp
     rw [h1 y hy (e.trans (of_decide_eq_true q).symm) (e ▸ hk)] at hb
     clear e hy q hp ih h1 hk; cases hb
    rw [hn]; rfl
theorem mEa {l:List Sh} (h:pC l) (p:Nat) {k:Int} (hk:8 ≤ k):nmT (((l.filter fun x=>!x.al) ++ l.filter fun x=>x.al).filter (keep p)) k = nmT (l.filter (keep p)) k:=by
 unfold nmT
 have hs:pC (l.filter (keep p)):=h.sublist List.filter_sublist
 rw [yD hk hs,List.filter_append,List.filter_filter,List.filter_filter,List.filter_filter,List.filter_filter]
 simp only [Bool.and_comm]
structure Fin (A:Ad) (imp:Bool) (xs:List Sh) (H:Heap):Prop where
 sh:Imp H A.sh A.ob A.im imp
 ob:H[A.ob]? = some (.list (xs.map fun x=>.ref x.o))
 vd:∃ es,H[A.vd]? = some (.dict es)∧∀ x ∈ xs,x.kd = 0→look x.name es = some (.str x.w)
 al:H[A.al]? = some (.list (((xs.filter (·.al)).map Sh.name).map V.str))
 ok:∀ x ∈ xs,gG H 6 x
 ats:xs.map Sh.at_ = List.range xs.length
 len:xs.length ≤ 6
 pair:pC xs
theorem Fin.ext {A:Ad} {imp:Bool} {xs:List Sh} {H H':Heap} (F:Fin A imp xs H) (e:Ext H H'):Fin A imp xs H' :=
 ⟨F.sh.xj e.xj,e.get F.ob,let ⟨es,a,b⟩:=F.vd; ⟨es,e.get a,b⟩,e.get F.al,fun x h=>(F.ok x h).xj e.xj fun _ g=>g.xj e.xj,F.ats,F.len,F.pair⟩
theorem LW.fin {A:Ad} {imp:Bool} {xs:List Sh} {H:Heap} (L:LW A imp xs.length xs H) (hl:xs.length ≤ 6):Fin A imp xs H:=by
 cases L with
 | @mk ps es ns ct k I hb hob hat hx hp im =>
 refine ⟨im.xj uW,hob,⟨es,I.vd.1,fun x h=>(hx x h).2.2⟩,I.al.1,fun x h=>(hx x h).1.xj uW fun t g=>?_,hat,hl,hp⟩
 have:=(g.xj uW).up (k:=6 - xs.length)
 rwa [Nat.add_sub_cancel' hl] at this
section
variable {A:Ad} {imp:Bool} {xs:List Sh} {H:Heap}
theorem Fin.at_ (F:Fin A imp xs H) {j:Nat} (h:j < xs.length):xs[j].at_ = j:=by
 have:=List.getElem_map Sh.at_ (l:=xs) (i:=j) (h:=by rw [List.length_map]; exact h)
 rw [← this]
 have e:=F.ats
 simp only [e,List.getElem_range]
theorem Fin.lt (F:Fin A imp xs H) {x:Sh} (h:x ∈ xs):x.at_ < xs.length:=nO F.ats h
theorem Fin.inj (F:Fin A imp xs H) {x y:Sh} (hx:x ∈ xs) (hy:y ∈ xs) (h:x.name = y.name):x = y:=by
 have h6:=F.len
 have e:=(yH x.kd (F.ok x hx).kd y.kd (F.ok y hy).kd x.at_ (Nat.lt_of_lt_of_le (F.lt hx) F.len) y.at_ (Nat.lt_of_lt_of_le (F.lt hy) F.len) h).1
 clear h6 h; obtain ⟨i,hi,rfl⟩:=List.getElem_of_mem hx
 clear hx; obtain ⟨j,hj,rfl⟩:=List.getElem_of_mem hy
 rw [F.at_ hi,F.at_ hj] at e
 clear hy F; subst e; rfl
theorem Fin.sl (F:Fin A imp xs H) {x:Sh} (h:x ∈ xs):SL 2 x.name:=aN (pQ x.kd (F.ok x h).kd x.at_ (Nat.lt_of_lt_of_le (F.lt h) F.len)).2.2.2.2.2.2.2
theorem Fin.alias (F:Fin A imp xs H) {x:Sh} (hx:x ∈ xs):(((xs.filter (·.al)).map Sh.name).map V.str).any (isS x.name) = x.al:=by
 rw [List.any_map,List.any_map]
 cases h:x.al with
 | true=>exact List.any_eq_true.mpr ⟨x,List.mem_filter.mpr ⟨hx,h⟩,decide_eq_true rfl⟩
 | false =>
  refine List.any_eq_false.mpr fun y hy q=>?_
  obtain ⟨hy,ha⟩:=List.mem_filter.mp hy
  rw [F.inj hy hx (of_decide_eq_true q),h] at ha
  clear hy q h hx F; cases ha
end
end Mine.C
end
section
namespace Mine.C
open PySem (Expr Stmt Str)
inductive LJ (H:Heap) (l n:Nat) (f:Int→Option V):Prop where
 | nil:H[l]? = some (.dict [])→(∀ k,f k = none)→LJ H l n f
 | nums {es:List (Int × V)}:H[l]? = some (.idict es)→(∀ k,look k es = f k)→es.length ≤ n→LJ H l n f
theorem LJ.ext {H H':Heap} {l n:Nat} {f:Int→Option V} (L:LJ H l n f) (e:Ext H H'):LJ H' l n f:=by
 cases L with
 | nil g h=>exact .nil (e.get g) h
 | nums g h k=>exact .nums (e.get g) h k
theorem LJ.up {H:Heap} {l n:Nat} {f:Int→Option V} (L:LJ H l n f):LJ H l (n + 1) f:=by
 cases L with
 | nil g h=>exact .nil g h
 | nums g h k=>exact .nums g h (Nat.le_succ_of_le k)
theorem LJ.isin {H:Heap} {l n:Nat} {f:Int→Option V} (L:LJ H l n f) (k:Int):isIn (.int k) (.ref l) H = some (f k).isSome:=by
 show inI k H[l]? = _
 cases L with
 | nil g h=>rw [g,h k]; rfl
 | nums g h _=>rw [g,← h k]; rfl
theorem LJ.set {H:Heap} {l n:Nat} {f:Int→Option V} (L:LJ H l n f) (hn:n ≤ 1000) {k:Int} {v:V} {P:Heap→Prop} (q:∀ H' o,bQ H l o H'→LJ H' l (n + 1) (fun j=>if j = k then some v else f j)→P H'):G (jP (.ref l) (.int k) v H) P:=by
 cases L with
 | nil g h =>
  refine mDa g fun H' s=>q H' _ s (.nums s.self (fun j=>?_) (Nat.succ_le_succ (Nat.zero_le _)))
  rw [h j]
  show (if k = j then some v else none) = _
  by_cases e:j = k
  ·rw [if_pos e,if_pos e.symm]
  ·rw [if_neg e,if_neg (Ne.symm e)]
 | nums g h hl =>
  refine mTa g (Nat.le_trans hl hn) fun H' s=>q H' _ s (.nums s.self (fun j=>?_) (Nat.le_trans jC (Nat.succ_le_succ hl)))
  by_cases e:j = k
  ·rw [if_pos e,e]; exact sS
  ·rw [if_neg e,pN e]; exact h j
inductive wU (H:Heap) (a:Nat):Prop where
 | num {m:Int}:eO (.ref a) 0 H = some (.int m)→m < 8→wU H a
 | form {s:Str}:eO (.ref a) 1 H = some (.str s)→s = "array" ∨ s = "pointer" ∨ s = "record"→wU H a
theorem eQa {H:Heap}:∀ {d a:Nat},GT H d a→wU H a
 | 0,a,h=>by
  cases h with
  | basic e hn _ _=>exact .num (cT e rfl) hn
  | other e _=>exact .form (cT e rfl) (.inr (.inr rfl))
 | d + 1,a,h=>h.elim eQa fun g=>by
  cases g with
  | arr e _ _ _=>exact .form (cT e rfl) (.inl rfl)
  | ptr e _ _=>exact .form (cT e rfl) (.inr (.inl rfl))
  | rcd e _ _ _ _ _=>exact .form (cT e rfl) (.inr (.inr rfl))
theorem vKa {H:Heap} {d a:Nat} (h:GT H d a) {num size len:Int} {form mod lab:Str} {base:V} {fs ps hid:Nat} (e:H[a]? = some (tyF num form size base len fs ps mod lab hid)):num < 8 ∨ form = "array" ∨ form = "pointer" ∨ form = "record":=by
 cases eQa h with
 | num q hm=>rw [cT (x:=0) e rfl] at q; injection q with q; injection q with q; exact .inl (q ▸ hm)
 | form q hs=>rw [cT (x:=1) e rfl] at q; injection q with q; injection q with q; exact .inr (q ▸ hs)
noncomputable def sTa:ISs:=(.cons (.setl 5 (.sub (.loc 0) (.loc 4)))
 (.cons (.setl 6 (.and (.cmp .Eq (.attr (.loc 5) 13) (.const (.str ("type")))) (.cmp .NotIn (.attr (.attr (.loc 5) 14) 1) (.list (.cons (.const (.str ("integer"))) (.cons (.const (.str ("char"))) (.cons (.const (.str ("set"))) .nil)))))))
 (.cons (.ite (.and (.val (.loc 6)) (.and (.or (.val (.cmp .Lt (.loc 4) (.loc 1))) (.val (.cmp .NotIn (.attr (.loc 5) 12) (.loc 2)))) (.val (.cmp .NotIn (.attr (.attr (.loc 5) 14) 0) (.loc 3))))) (.cons (.seti (.loc 3) (.attr (.attr (.loc 5) 14) 0) (.attr (.loc 5) 12))
 .nil) .nil)
 .nil)))
theorem rW {kk:Nat} (h:kk < 4):decide (kS kk = "type") = decide (kk = 1):=by
 rcases k4 kk h with rfl | rfl | rfl | rfl <;> kernel_rfl
noncomputable def lnE (ob p al l:Nat) (x4 x5 x6:Option V):Env:=[some (.ref ob),some (.int p),some (.ref al),some (.ref l),x4,x5,x6,none,none,none,none]
section
variable {A:Ad} {imp:Bool} {xs:List Sh} {H0 H:Heap} {p l j:Nat} {f:Int→Option V} {x4 x5 x6:Option V} {cf:aU} {Q:Fl × Env→Heap→Prop}
noncomputable def eY (f:Int→Option V) (ys:List Sh):Prop:=∀ k,8 ≤ k→f k = (nmT ys k).map V.str
theorem eY.skip {ys:List Sh} {x:Sh} (h:eY f ys) (hx:x.sn < 8):eY f (ys ++ [x]):=fun k hk=>by
 rw [xF,if_neg (by exact fun q=>Int.lt_irrefl _ (Int.lt_of_lt_of_le (q ▸ hx) hk)),Option.or_none]; exact h k hk
theorem eY.had {ys:List Sh} {x:Sh} (h:eY f ys) (hx:(f x.sn).isSome = true):eY f (ys ++ [x]):=fun k hk=>by
 rw [xF]
 by_cases e:x.sn = k
 ·have h1:=h k hk
  rw [← e] at h1 ⊢
  rw [h1] at hx
  rw [h1]
  cases q:nmT ys x.sn with
  | none=>rw [q] at hx; first | exact nos hx | exact nof hx | cases hx
  | some s=>rfl
 ·rw [if_neg e,Option.or_none]; exact h k hk
theorem eY.new {ys:List Sh} {x:Sh} (h:eY f ys) (hx:(f x.sn).isSome = false):eY (fun j=>if j = x.sn then some (.str x.name) else f j) (ys ++ [x]):=fun k hk=>by
 rw [xF]
 show (if k = x.sn then some (V.str x.name) else f k) = _
 by_cases e:k = x.sn
 ·have h1:=h k hk
  rw [e] at h1 hk ⊢
  rw [if_pos rfl,if_pos rfl]
  rw [h1] at hx
  cases q:nmT ys x.sn with
  | none=>rfl
  | some s=>rw [q] at hx; first | exact nos hx | exact nof hx | cases hx
 ·rw [if_neg e,if_neg (Ne.symm e),Option.or_none]; exact h k hk
theorem take_snoc (h:j < xs.length) {q:Sh→Bool}:(xs.take (j + 1)).filter q = (xs.take j).filter q ++ if q xs[j] = true then [xs[j]] else []:=by
 rw [List.take_succ_eq_append_getElem h,List.filter_append]
 refine congrArg _ ?_
 rw [List.filter_cons]; rfl
theorem hBa {env:Env} {t u:IT} {a b:Bool} (h:PT cf env H t a) (k:PT cf env H u b):PT cf env H (.and t u) (a && b):=by
 cases a with
 | true=>exact gO h k
 | false=>exact jH h
theorem mZa {env:Env} {t u:IT} {a b:Bool} (h:PT cf env H t a) (k:PT cf env H u b):PT cf env H (.or t u) (a || b):=by
 cases a with
 | true=>exact lSa h
 | false=>exact dSa h k
theorem eY.kept {p:Nat} {ys:List Sh} {x:Sh} (h:eY f ys) (hx:keep p x = true→x.sn < 8 ∨ (f x.sn).isSome = true):eY f (ys ++ if keep p x = true then [x] else []):=by
 by_cases e:keep p x = true
 ·rw [if_pos e]
  exact (hx e).elim h.skip h.had
 ·rw [if_neg e,List.append_nil]; exact h
noncomputable def mVa:IT:=(.and (.val (.loc 6)) (.and (.or (.val (.cmp .Lt (.loc 4) (.loc 1))) (.val (.cmp .NotIn (.attr (.loc 5) 12) (.loc 2)))) (.val (.cmp .NotIn (.attr (.attr (.loc 5) 14) 0) (.loc 3)))))
theorem pBa (F:Fin A imp xs H0) (hj:j < xs.length) (hn:H0[l]? = none) (e:Ext H0 H) (L:LJ H l j f) (N:eY f ((xs.take j).filter (keep p)))
  (q:∀ H' f' y5 y6,Ext H0 H'→LJ H' l (j + 1) f'→eY f' ((xs.take (j + 1)).filter (keep p))→Q (.next,lnE A.ob p A.al l (some (.int j)) y5 y6) H'):W (aJ cf sTa (lnE A.ob p A.al l (some (.int j)) x5 x6) H) Q:=by
 have hx:xs[j] ∈ xs:=List.getElem_mem hj
 have at_:=F.at_ hj
 have ok:=F.ok _ hx
 rw [take_snoc hj] at q
 have ali:=F.alias hx
 have hob:PE cf (lnE A.ob p A.al l (some (.int j)) x5 x6) H (.sub (.loc 0) (.loc 4)) (.ref xs[j].o) :=
  cQ (aA rfl) (aA rfl) (e.get F.ob) (by rw [lM (by rw [List.length_map]; exact hj),List.getElem_map])
 generalize xs[j] = x at hx at_ ok q ali hob
 refine gA hob ?_
 have hty:∀ {H:Heap} {y6},Ext H0 H→PE cf (lnE A.ob p A.al l (some (.int j)) (some (.ref x.o)) y6) H (.cmp .Eq (.attr (.loc 5) 13) (.const (.str "type"))) (.bool (decide (x.kd = 1))):=fun e=>aR (aF (aA rfl) (e.get ok.ob) rfl) aB (congrArg some (rW ok.kd))
 by_cases h1:x.kd = 1
 ·have hsn:x.sn = x.num:=if_pos h1
  have hgt:=ok.tv (.inl h1)
  cases ok.ty h1 with
  | @mk num form size base len fs ps mod lab hid et hq =>
  have hnum:=hq.1
  have hform:=vKa hgt et
  have hty':=hty (y6:=x6) e
  rw [decide_eq_true h1] at hty'
  refine bC (uG (E_p hty' ⟨true,rfl,fun _=>?_,fun w=>nomatch w⟩))
  refine fW (E_p (aF (aF (aA rfl) (e.get ok.ob) rfl) (e.get et) rfl) (bU (aD aB (aD aB (aD aB (aK (bJ (aG rfl) fun b H1 x1 g1 m1=>?_)))))))
  refine zJ (b:=[V.str "integer",.str "char",.str "set"].any (isS form)) (by show inS form H1[b]? = _; rw [g1]; rfl) ?_
  have e1:=e.trans x1
  have L1:=L.ext x1
  have et1:=e1.get et
  have ob1:=e1.get ok.ob
  have hlt:PT cf (lnE A.ob p A.al l (some (.int j)) (some (.ref x.o)) (some (.bool (!([V.str "integer",.str "char",.str "set"].any (isS form)))))) H1 mVa (!([V.str "integer",.str "char",.str "set"].any (isS form)) && (keep p x && !(f num).isSome)):=by
   refine hBa (aO (aA rfl)) (hBa ?_ (aO (aR (aF (aF (aA rfl) ob1 rfl) et1 rfl) (aA rfl) (by show (isIn (.int num) (.ref l) H1).map _ = _; rw [L1.isin]; rfl))))
   unfold keep
   refine mZa (aO (aR (aA rfl) (aA rfl) (congrArg some ?_))) (aO (aR (aF (aA rfl) ob1 rfl) (aA rfl) ?_))
   ·rw [at_]; exact decide_eq_decide.mpr Int.ofNat_lt
   ·show (inS x.name H1[A.al]?).map (!·) = _
    rw [e1.get F.al]
    show (aP _ (some _)).map (!·) = _
    rw [ali,kE (by rw [List.all_map]; exact List.all_eq_true.mpr fun _ _=>rfl)]; rfl
  have skip:(keep p x = true→x.sn < 8 ∨ (f x.sn).isSome = true)→W (aJ cf .nil (lnE A.ob p A.al l (some (.int j)) (some (.ref x.o)) (some (.bool (!([V.str "integer",.str "char",.str "set"].any (isS form)))))) H1) (Aft cf .nil Q):=fun h=>aX (aZ (aX (q H1 f _ _ e1 L1.up (N.kept h))))
  refine gZ hlt (fun w=>?_) fun w=>skip fun hk=>?_
  ·obtain ⟨w1,w2⟩:=Bool.and_eq_true_iff.mp w
   obtain ⟨w2,w3⟩:=Bool.and_eq_true_iff.mp w2
   have w3:(f num).isSome = false:=by simpa using w3
   refine lD (E_p (aF (aA rfl) ob1 rfl) (E_p (aA rfl) (E_p (aF (aF (aA rfl) ob1 rfl) et1 rfl) (L1.set (by have:=F.len; exact lin [_,_] .x (.n 1000) [(.a .x (.n 1),.y),(.y,.n 6)] rfl hj this) fun H2 o s L2=>aX (aZ (aX (q H2 _ _ _ (e1.set s hn) L2 ?_)))))))
   rw [if_pos w2]
   rw [hnum,← hsn] at w3 ⊢
   exact N.new w3
  ·rw [hsn,← hnum]
   rw [hk] at w
   cases hfs:(f num).isSome with
   | true=>exact .inr rfl
   | false =>
    rw [hfs] at w
    refine .inl (hform.elim id fun h=>?_)
    have:∀ g:Str,g = "array" ∨ g = "pointer" ∨ g = "record"→(!([V.str "integer",.str "char",.str "set"].any (isS g)) && (true && !false)) = true:=fun g hg=>by
     rcases hg with rfl | rfl | rfl <;> decide +kernel
    rw [this form h] at w; first | exact nos w | exact nof w | cases w
 ·have hty':=hty (y6:=x6) e
  rw [decide_eq_false h1] at hty'
  refine gA (xM hty') (bH (jH (aO (aA rfl))) (bF (aX (q H f _ _ e L.up (N.kept fun _=>.inl ?_)))))
  rw [show x.sn = -1 from if_neg h1]; decide
end
end Mine.C
end
section
namespace Mine.C
open PySem (Expr Stmt Str)
section
variable {A:Ad} {imp:Bool} {xs:List Sh} {H:Heap} {n l j:Nat} {f:Int→Option V}
theorem LJ.ln {ys:List Sh} (L:LJ H l j f) (N:eY f ys):LN H l (nmT ys):=by
 cases L with
 | nil g h=>exact .nil g fun k hk=>Option.map_eq_none_iff.mp ((N k hk).symm.trans (h k))
 | nums g h _=>exact .nums g fun k hk=>(h k).trans (N k hk)
theorem bSa (F:Fin A imp xs H) (p:Nat):W (aC tbl (n + 1) .lnamed [.ref A.ob,.int p,.ref A.al] H) fun v H'=>∃ l,v = .ref l∧Ext H H'∧LN H' l (nmT (xs.filter (keep p))):=by
 refine bK (env:=[some (.ref A.ob),some (.int p),some (.ref A.al),none,none,none,none,none,none,none,none]) rfl ?_
 refine bC (iU (aK (lE (by decide) fun l H1 x1 g1 m1=>?_)))
 have g1:H1[l]? = some (.dict []):=g1
 refine cY (oV (E_p (gM (aA rfl) (x1.get F.ob)) ⟨xs.length,by rw [List.length_map],by have:=F.len; exact lin [_] .x (.n 1000) [(.x,.n 6)] rfl this,?_⟩))
 refine pG (fun j env H'=>∃ f x4 x5 x6,env = lnE A.ob p A.al l x4 x5 x6∧Ext H H'∧LJ H' l j f∧eY f ((xs.take j).filter (keep p))) ?_ ?_ ⟨fun _=>none,none,none,none,rfl,x1,.nil g1 fun _=>rfl,fun _ _=>rfl⟩
 ·rintro j env H' hj ⟨f,x4,x5,x6,rfl,e,L,N⟩
  refine dM (env1:=lnE A.ob p A.al l (some (.int j)) x5 x6) rfl (pBa F hj m1 e L N fun H2 f' y5 y6 e2 L2 N2=>?_)
  exact ⟨f',_,y5,y6,rfl,e2,L2,N2⟩
 ·rintro env H' ⟨f,x4,x5,x6,rfl,e,L,N⟩
  rw [List.take_length] at N
  exact aZ (cC (aA rfl) ⟨l,rfl,e,L.ln N⟩)
end
end Mine.C
end
section
namespace Mine.C
open PySem (Expr Stmt Str)
theorem eDa {K:Type} [DecidableEq K] {x:K} {v:V}:∀ {es:List (K × V)},look x es = none→put x v es = es ++ [(x,v)]
 | [],_=>rfl
 | (k,u) :: r,h=>by
  by_cases e:k = x
  ·rw [show look x ((k,u) :: r) = some u from if_pos e] at h; first | exact nos h | exact nof h | cases h
  ·rw [show look x ((k,u) :: r) = look x r from if_neg e] at h
   rw [show put x v ((k,u) :: r) = (k,u) :: put x v r from if_neg e,eDa h]; rfl
section
variable {cf:aU} {H:Heap} {n:Nat}
theorem xBa {env:Env} {e u:IE} {s:Str} {a:Nat} {es:List (Str × V)} {b:Bool} (h:PE cf env H e (.str s)) (h2:PE cf env H u (.ref a)) (g:H[a]? = some (.dict es)) (hb:(look s es).isSome = b):PT cf env H (.val (.cmp .In e u)) b :=
 aO (aR h h2 (by show inS s H[a]? = _; rw [g,← hb]; rfl))
theorem vQa {s:Str} {u:Nat} {es:List (Str × V)} (g:H[u]? = some (.dict es)) (h:look s es = none):aC tbl (n + 1) .free_name [.str s,.ref u] H = some (.str s,H):=by
 have:W (aC tbl (n + 1) .free_name [.str s,.ref u] H) fun w H'=>w = .str s∧H' = H:=by
  refine bK (env:=[some (.str s),some (.ref u),none,none,none,none,none,none]) rfl ?_
  refine gA aB (gA (aA rfl) (sW ?_))
  refine rA (fun k env' H'=>env' = [some (.str s),some (.ref u),some (.int 0),some (.str s),none,none,none,none]∧H' = H) ?_ 200 0 _ _ (by decide) ⟨rfl,rfl⟩
  rintro k env' H' ⟨rfl,rfl⟩
  exact T_p (xBa (aA rfl) (aA rfl) g (b:=false) (by rw [h]; rfl)) ⟨fun _=>aZ (cC (aA rfl) ⟨rfl,rfl⟩),fun q=>nomatch q⟩
 clear h g; obtain ⟨a,H1,e1,rfl,rfl⟩:=this.run
 exact e1
structure NmS (H:Heap) (p s0 al sc nr:Nat) (mk:Bool) (ad sd:List (Str × V)):Prop where
 gob:H[p]? = some (.inst .nms [(8,.str "M"),(26,.ref al),(27,.ref sc),(22,.ref nr),(28,.bool mk)])
 gal:H[al]? = some (.dict ad)
 gsc:H[sc]? = some (.list [.ref s0])
 gs0:H[s0]? = some (.dict sd)
 ne:al ≠ s0
 vals:∀ s v,look s ad = some v→v = .str s
 len:sd.length ≤ 10
theorem NmS.pn {p s0 al sc nr:Nat} {ad sd:List (Str × V)} (S:NmS H p s0 al sc nr false ad sd) (h:vK sd):PN H p s0 sd :=
 ⟨⟨al,sc,nr,ad,S.gob,S.gal,by cases q:look ("N":Str) ad with | none=>rfl | some v=>exact S.vals _ _ q,S.gsc⟩,S.gs0,h,S.len⟩
theorem NmS.ext {H':Heap} {p s0 al sc nr:Nat} {mk:Bool} {ad sd:List (Str × V)} (S:NmS H p s0 al sc nr mk ad sd) (e:Ext H H'):NmS H' p s0 al sc nr mk ad sd:=⟨e.get S.gob,e.get S.gal,e.get S.gsc,e.get S.gs0,S.ne,S.vals,S.len⟩
theorem NmS.set {H':Heap} {p s0 al sc nr:Nat} {mk:Bool} {ad sd sd':List (Str × V)} (S:NmS H p s0 al sc nr mk ad sd) (s:bQ H s0 (.dict sd') H') (h:sd'.length ≤ 10):NmS H' p s0 al sc nr mk ad sd' :=
 ⟨s.get (fun w=>by have:=S.gob; rw [w,S.gs0] at this; cases this) S.gob,s.get S.ne S.gal,s.get (fun w=>by have:=S.gsc; rw [w,S.gs0] at this; cases this) S.gsc,s.self,S.ne,S.vals,h⟩
theorem eYa {p s0 al sc nr:Nat} {mk:Bool} {ad sd:List (Str × V)} {s:Str} {v:V} (S:NmS H p s0 al sc nr mk ad sd) (hl:(put s v sd).length ≤ 10) {Q:V→Heap→Prop} (q:∀ H',bQ H s0 (.dict (put s v sd)) H'→NmS H' p s0 al sc nr mk ad (put s v sd)→Q .none H'):W (aC tbl (n + 1) .enter [.ref p,.str s,v] H) Q:=by
 refine bK (env:=[some (.ref p),some (.str s),some v,none,none,none,none]) rfl ?_
 refine tM (aA rfl) (cQ (vs:=[.ref s0]) (aF (aA rfl) S.gob rfl) (jE aB) S.gsc rfl) (aA rfl) S.gs0 (Nat.le_trans S.len (aG rfl)) fun H' s=>aX (qG (q H' s (S.set s hl)))
end
end Mine.C
end
section
namespace Mine.C
open PySem (Expr Stmt Str)
theorem But.set {f y:Nat} {A B C:Heap} {o:O} (h:But f A B) (s:bQ B y o C) (n:A[y]? = none):But f A C:=fun b x w e=>s.get (fun q=>by rw [q,n] at e; cases e) (h b x w e)
theorem But.none {f y:Nat} {A B:Heap} (h:But f A B) (n:y ≠ f) (m:B[y]? = none):A[y]? = none:=by
 cases w:A[y]? with
 | none=>rfl
 | some o=>rw [h y o n w] at m; first | exact nos m | exact nof m | cases m
theorem NmS.al_ {H H':Heap} {p s0 al sc nr:Nat} {mk:Bool} {ad ad' sd:List (Str × V)} (S:NmS H p s0 al sc nr mk ad sd) (s:bQ H al (.dict ad') H') (h:∀ s v,look s ad' = some v→v = .str s):NmS H' p s0 al sc nr mk ad' sd :=
 ⟨s.get (fun w=>by have:=S.gob; rw [w,S.gal] at this; cases this) S.gob,s.self,s.get (fun w=>by have:=S.gsc; rw [w,S.gal] at this; cases this) S.gsc,s.get S.ne.symm S.gs0,S.ne,h,S.len⟩
theorem NmS.off {H H':Heap} {p s0 al sc nr u:Nat} {mk:Bool} {ad sd:List (Str × V)} {o:O} (S:NmS H p s0 al sc nr mk ad sd) (s:bQ H u o H') (h1:al ≠ u) (h2:s0 ≠ u) {es:List (Str × V)} (g:H[u]? = some (.dict es)):NmS H' p s0 al sc nr mk ad sd :=
 ⟨s.get (fun w=>by have:=S.gob; rw [w,g] at this; cases this) S.gob,s.get h1 S.gal,s.get (fun w=>by have:=S.gsc; rw [w,g] at this; cases this) S.gsc,s.get h2 S.gs0,S.ne,S.vals,S.len⟩
noncomputable def inE (a il tl u:Nat) (x5:Option V):Env:=[some (.ref a),some (.str "M"),some (.ref il),some (.ref tl),some (.ref u),x5,none,none,none,none]
noncomputable def wPa:ISs:=(.cons (.for [5] false (.of (.loc 3)) (.cons (.seti (.loc 4) (.loc 5) (.const (.bool true))) .nil))
 (.cons (.for [5] false (.of (.bin .Add (.blt .list (.cons (.loc 2) .nil)) (.list (.cons (.const (.str ("SYSTEM"))) .nil)))) (.cons (.seti (.attr (.loc 0) 26) (.loc 5) (.call .free_name (.cons (.loc 5) (.cons (.loc 4) .nil))))
 (.cons (.seti (.loc 4) (.sub (.attr (.loc 0) 26) (.loc 5)) (.const (.bool true))) .nil)))
 .nil))
theorem l8 {a b:Nat} (h:a ≤ 6) (k:b ≤ 1):a + (b + 1) ≤ 8:=by exact lin [_,_] (.a .x (.a .y (.n 1))) (.n 8) [(.x,.n 6),(.y,.n 1)] rfl h k
theorem up8 {a b l n:Nat} (p:a ≤ b + 1) (h:b + (l + 1) ≤ n):a + l ≤ n:=by exact lin [_,_,_,_] (.a .x .y) .z [(.x,.a .w (.n 1)),(.a .w (.a .y (.n 1)),.z)] rfl p h
inductive InA (H0:Heap) (a s0 al sc nr il tl u:Nat) (ns rest:List Str) (H':Heap):Env→Prop where
 | mk (es:List (Str × V)) (y5:Option V):But a H0 H'→NmS H' a s0 al sc nr true [] []→H'[u]? = some (.dict es)→(∀ s,s ∉ ns→look s es = none)→es.length + rest.length ≤ 6→(∀ s ∈ rest,s ∈ ns)→InA H0 a s0 al sc nr il tl u ns rest H' (inE a il tl u y5)
inductive InB (H0:Heap) (a s0 al sc nr il tl u f:Nat) (is rest:List Str) (H':Heap):Env→Prop where
 | mk (es ad:List (Str × V)) (y5:Option V):But a H0 H'→NmS H' a s0 al sc nr true ad []→H'[u]? = some (.dict es)→(∀ s ∈ rest,look s es = none)→rest.Nodup→es.length + rest.length ≤ 8→ad.length + rest.length ≤ 8→H'[f]? = some (.list ((is ++ [("SYSTEM":Str)]).map V.str))→InB H0 a s0 al sc nr il tl u f is rest H' (inE a il tl u y5)
theorem sLa {H0 H:Heap} {n a il tl u s0 al sc nr:Nat} {x5:Option V} {ns is:List Str} (b:But a H0 H) (hu:H0[u]? = none) (ha:H0[al]? = none) (h1:al ≠ u) (h2:s0 ≠ u) (S:NmS H a s0 al sc nr true [] []) (gu:H[u]? = some (.dict [])) (gi:H0[il]? = some (.list (is.map V.str))) (gt:H0[tl]? = some (.list (ns.map V.str))) (hia:il ≠ a∧tl ≠ a) (hns:ns.length ≤ 6) (his:is.length ≤ 1) (hno:∀ s ∈ is ++ [("SYSTEM":Str)],s ∉ ns) (hnd:(is ++ [("SYSTEM":Str)]).Nodup)
  {Q:V→Heap→Prop} (q:∀ H' ad,But a H0 H'→NmS H' a s0 al sc nr true ad []→Q .none H'):W (aJ (aC tbl (n + 1)) wPa (inE a il tl u x5) H) (Out Q):=by
 refine cY (W.of (iJ (aA rfl) (b _ _ hia.2 gt)) ?_)
 refine pX V.str (InA H0 a s0 al sc nr il tl u ns) ?_ ?_ ?_ ns _ _ (.mk [] x5 b S gu (fun _ _=>rfl) (by rw [List.length_nil,Nat.zero_add]; exact hns) fun _ h=>h)
 ·rintro l env H' ⟨_,_,b',_,_,_,_,_⟩
  exact cO (b' _ _ hia.2 gt)
 ·rintro s rest env H' ⟨es,y5,b',S',g',hes,hlen,hr⟩
  rw [List.length_cons] at hlen
  refine dM (env1:=inE a il tl u (some (.str s))) rfl (tM aB (aA rfl) (aA rfl) g' (by exact lin [_,_] .x (.n 1000) [(.a .x (.a .y (.n 1)),.n 6)] rfl hlen) fun H2 s2=>aX ?_)
  refine .mk _ _ (b'.set s2 hu) (S'.off s2 h1 h2 g') s2.self (fun t ht=>?_) ?_ fun t ht=>hr t (.tail _ ht)
  ·rw [pN (fun w=>ht (by rw [w]; exact hr s (.head _)))]; exact hes t ht
  ·have:=jC (x:=s) (v:=.bool true) (es:=es)
   exact lin [_,_,_] (.a .x .y) (.n 6) [(.x,.a .z (.n 1)),(.a .z (.a .y (.n 1)),.n 6)] rfl this hlen
 ·rintro env H1 ⟨es,y5,b1,S1,g1,hes,hlen,hr⟩
  clear S gu b
  have hlen:es.length ≤ 6:=by exact lin [_,_] .x (.n 6) [(.a .x .y,.n 6)] rfl hlen
  have gi1:=b1 _ _ hia.1 gi
  refine aZ (cY (gF (bW (tSa (aD (aA rfl) (aK (mPa gi1 (by rw [List.length_map]; exact lin [_] .x (.n 1000) [(.x,.n 1)] rfl his) fun c H2 x2 g2 m2=>bU (aD aB (aK (bJ (aG rfl) fun d H3 x3 g3 m3=>?_))))))))))
  refine sX (x3.get g2) g3 (by rw [List.length_append,List.length_map]; show is.length + 1 ≤ _; exact lin [_] (.a .x (.n 1)) (.n 1000) [(.x,.n 1)] rfl his) fun f H4 x4 g4 m4=>?_
  have e4:Ext H1 H4:=x2.trans (x3.trans x4)
  have g4':H4[f]? = some (.list ((is ++ [("SYSTEM":Str)]).map V.str)):=by rw [g4,List.map_append]; rfl
  refine ⟨⟨_,.list f _⟩,by show itO f H4[f]? = _; rw [g4']; rfl,?_⟩
  have hf:f ≠ u∧f ≠ al:=⟨(bV ((x2.trans x3).get g1) m4).symm,(bV ((x2.trans x3).get S1.gal) m4).symm⟩
  refine pX V.str (InB H0 a s0 al sc nr il tl u f is) ?_ ?_ ?_ (is ++ [("SYSTEM":Str)]) _ _ (.mk es [] y5 (b1.trans e4.but) (S1.ext e4) (e4.get g1) (fun s hs=>hes s (hno s hs)) hnd (by rw [List.length_append]; exact l8 hlen his) (by rw [List.length_append]; exact l8 (a:=0) (by decide) his) g4')
  ·rintro l env H' ⟨_,_,_,_,_,_,_,_,_,_,g⟩
   exact cO g
  ·rintro s rest env H' ⟨es,ad,y5,b',S',g',hes,hnd,hl1,hl2,gf⟩
   rw [List.length_cons] at hl1 hl2
   have hs:=hes s (.head _)
   refine dM (env1:=inE a il tl u (some (.str s))) rfl (tM (uF (aA rfl) (aA rfl) (vQa g' hs)) (aF (aA rfl) S'.gob rfl) (aA rfl) S'.gal (by exact lin [_,_] .x (.n 1000) [(.a .x (.a .y (.n 1)),.n 8)] rfl hl2) fun H5 s5=>?_)
   have S5:=S'.al_ s5 (ad':=put s (.str s) ad) fun t v h=>by
    by_cases w:t = s
    ·rw [w,sS] at h; injection h with h; rw [w,h]
    ·rw [pN w] at h; exact S'.vals t v h
   have g5:=s5.get h1.symm g'
   refine tM aB (aA rfl) (gGa (aF (aA rfl) S5.gob rfl) (aA rfl) S5.gal sS) g5 (by exact lin [_,_] .x (.n 1000) [(.a .x (.a .y (.n 1)),.n 8)] rfl hl1) fun H6 s6=>aX ?_
   have p1:=jC (x:=s) (v:=.bool true) (es:=es)
   have p2:=jC (x:=s) (v:=.str s) (es:=ad)
   refine .mk _ _ _ ((b'.set s5 ha).set s6 hu) (S5.off s6 h1 h2 g5) s6.self (fun t ht=>?_) (List.nodup_cons.mp hnd).2 (up8 p1 hl1) (up8 p2 hl2) (s6.get hf.1 (s5.get hf.2 gf))
   rw [pN (fun w=>(List.nodup_cons.mp hnd).1 (by rw [← w]; exact ht))]
   exact hes t (.tail _ ht)
  ·rintro env H' ⟨es,ad,y5,b',S',_⟩
   exact aZ (aX (qG (q H' ad b' S')))
theorem rOa {H:Heap} {n a il tl:Nat} {ns is:List Str} (ga:H[a]? = some (.inst .nms [])) (gi:H[il]? = some (.list (is.map V.str))) (gt:H[tl]? = some (.list (ns.map V.str))) (hns:ns.length ≤ 6) (his:is.length ≤ 1) (hno:∀ s ∈ is ++ [("SYSTEM":Str)],s ∉ ns) (hnd:(is ++ [("SYSTEM":Str)]).Nodup)
  {Q:V→Heap→Prop} (q:∀ H' s0 al sc nr ad,But a H H'→NmS H' a s0 al sc nr true ad []→H[s0]? = none→Q .none H'):W (aC tbl (n + 2) .initNms [.ref a,.str "M",.ref il,.ref tl] H) Q:=by
 refine bK (env:=[some (.ref a),some (.str "M"),some (.ref il),some (.ref tl),none,none,none,none,none,none]) rfl ?_
 refine cB (aA rfl) (aA rfl) ga (aG rfl) fun H1 s1=>?_
 refine cW (iU (aK (lE (by decide) fun al H2 x2 g2 m2=>E_p (aA rfl) (cZ (x2.get s1.self) (aG rfl) fun H3 s3=>?_))))
 refine cW (bU (cF (iU (aK (lE (by decide) fun s0 H4 x4 g4 m4=>aK (bJ (aG rfl) fun sc H5 x5 g5 m5=>E_p (aA rfl) (cZ (x5.get (x4.get s3.self)) (aG rfl) fun H6 s6=>?_)))))))
 refine pD (fun _=>aA rfl) s6.self (aG rfl) fun nr H7 H8 x7 g7 m7 s8=>?_
 refine cB aB (aA rfl) s8.self (aG rfl) fun H9 s9=>?_
 refine bC (iU (aK (lE (by decide) fun u H10 x10 g10 m10=>?_)))
 have b1:=s1.but
 have b3:=b1.trans (x2.but.trans s3.but)
 have b9:=b3.trans (x4.but.trans (x5.but.trans (s6.but.trans (x7.but.trans (s8.but.trans s9.but)))))
 have ne:∀ {x:Nat} {o:O} {Hx:Heap},Hx[a]? = some o→Hx[x]? = none→x ≠ a:=fun g m=>(bV g m).symm
 have na:al ≠ a:=ne s1.self m2
 have ns0:s0 ≠ a:=ne s3.self m4
 have nsc:sc ≠ a:=ne (x4.get s3.self) m5
 have nu:u ≠ a:=ne s9.self m10
 have gal9:H9[al]? = some (.dict []):=s9.get na (s8.get na (x7.get (s6.get na (x5.get (x4.get (s3.get na g2))))))
 have gs09:H9[s0]? = some (.dict []):=s9.get ns0 (s8.get ns0 (x7.get (s6.get ns0 (x5.get g4))))
 have gsc9:H9[sc]? = some (.list [.ref s0]):=s9.get nsc (s8.get nsc (x7.get (s6.get nsc g5)))
 have ha:∀ {x:Nat} {vs:List V},H[x]? = some (.list vs)→x ≠ a:=fun e w=>by rw [w,ga] at e; first | exact nos e | exact nof e | cases e
 have has:al ≠ s0:=bV (s3.get na g2) m4
 refine sLa (ns:=ns) (is:=is) (b9.trans x10.but) (b9.none nu m10) (b1.none na m2) (bV gal9 m10) (bV gs09 m10) ⟨x10.get s9.self,x10.get gal9,x10.get gsc9,x10.get gs09,has,fun s v h=>(nomatch h),Nat.zero_le _⟩ g10 gi gt ⟨ha gi,ha gt⟩ hns his hno hnd fun H' ad b S=>q H' s0 al sc nr ad b S (b3.none ns0 m4)
end Mine.C
end
section
namespace Mine.C
open PySem (Expr Stmt Str)
section
variable {A:Ad} {imp:Bool} {xs:List Sh} {H:Heap} {n:Nat} {cf:aU}
theorem vU {o t:Nat} {nm kd:Str} {e r:Bool} {v:V} (h:H[o]? = some (obF nm kd t e r v)):nmV H (.ref o) = .str nm:=by unfold nmV; rw [cT h rfl]; rfl
noncomputable def ieE (sh:Nat) (x1 x2 x3 x4:Option V):Env:=[some (.ref sh),x1,x2,x3,x4,none,none,none]
theorem xFa {x1 x2 x3 x4:Option V} (F:Fin A imp xs H) {Q:V→Heap→Prop} (q:∀ b H1,Ext H H1→H1[b]? = some (.list ((xs.map Sh.name).map V.str))→Q (.ref b) H1):W (aH cf (ieE A.sh x1 x2 x3 x4) (.comp [4] false (.of (.attr (.loc 0) 24)) .nil (.attr (.loc 4) 12)) H) Q:=by
 refine cps fun G kG=>?_
 cases F.sh with
 | @mk ts e1 e2 e3 e4 =>
 refine kG (nC (p:=fun _=>true) (g:=nmV H) (iJ (aF (aA rfl) e1 rfl) F.ob) (cO F.ob) (by show (xs.map _).length ≤ _; rw [List.length_map]; exact Nat.le_trans F.len (aG rfl)) (fun v hv=>?_) fun b H1 x g m=>q b H1 x ?_)
 ·clear e4 e3 e2 e1 kG q; obtain ⟨x,hx,rfl⟩:=List.mem_map.mp hv
  have ob:=(F.ok x hx).ob
  exact ⟨ieE A.sh x1 x2 x3 (some (.ref x.o)),rfl,rfl,fun _=>by rw [vU ob]; exact aF (aA rfl) ob rfl⟩
 ·rw [g,filter_all,List.map_map,List.map_map]
  exact congrArg (fun l=>some (O.list l)) (List.map_congr_left fun x hx=>vU (F.ok x hx).ob)
noncomputable def mV (imp:Bool):List Str:=if imp = true then ["N"] else []
theorem gQa {env:Env} {i:Nat} (h0:(env[0]?).join = some (.ref A.sh)) (hi:∀ v,((bB i v env)[i]?).join = some v) (I:Imp H A.sh A.ob A.im imp) {Q:V→Heap→Prop} (q:∀ b H1,Ext H H1→H1[b]? = some (.list ((mV imp).map V.str))→Q (.ref b) H1):W (aH cf env (.comp [i] false (.of (.attr (.loc 0) 25)) .nil (.sub (.loc i) (.const (.int (0))))) H) Q:=by
 refine cps fun G kG=>?_
 cases I with
 | @mk ts e1 e2 e3 e4 =>
 have hts:ts.length ≤ 1:=by rw [e3]; split <;> decide
 refine kG (nC (p:=fun _=>true) (g:=fun _=>.str "N") (iJ (aF (aA h0) e1 rfl) e2) (cO e2) (by show (ts.map _).length ≤ _; rw [List.length_map]; exact Nat.le_trans hts (aG rfl)) (fun v hv=>?_) fun b H1 x g m=>q b H1 x ?_)
 ·clear hts e2 e1 kG q h0; obtain ⟨t,ht,rfl⟩:=List.mem_map.mp hv
  exact ⟨_,rfl,rfl,fun _=>nG (aA (hi _)) aB (e4 t ht) rfl⟩
 ·rw [g,filter_all,List.map_map]
  refine congrArg (fun l=>some (O.list l)) ?_
  unfold mV
  clear m g x hts e4 e2 e1 kG q hi h0; cases imp with
  | true=>match ts,e3 with
   | [t],_=>rfl
  | false=>match ts,e3 with
   | [],_=>rfl
theorem ents {l:List Sh} {x:Sh} (h:∀ y ∈ l,y.name ≠ x.name):put x.name (.int x.sn) (l.map ent) = (l ++ [x]).map ent:=by
 have:look x.name (l.map ent) = none:=by
  induction l with
  | nil=>rfl
  | cons y l ih=>exact (if_neg (h y (.head _))).trans (ih fun z hz=>h z (.tail _ hz))
 rw [eDa this,List.map_append]; rfl
theorem tX (l:List Sh):vK (l.map ent):=fun p hp=>by
 obtain ⟨x,_,rfl⟩:=List.mem_map.mp hp
 exact ⟨_,rfl⟩
theorem jKa {env:Env} {x:Sh} {d:Nat} (ok:gG H d x) (h:(env[1]?).join = some (.ref x.o)):PE cf env H (.ite (.val (.cmp .Eq (.attr (.loc 1) 13) (.const (.str ("type"))))) (.attr (.attr (.loc 1) 14) 0) (.neg (.const (.int (1))))) (.int x.sn):=by
 have ht:PT cf env H (.val (.cmp .Eq (.attr (.loc 1) 13) (.const (.str "type")))) (decide (x.kd = 1)):=aO (aR (aF (aA h) ok.ob rfl) aB (congrArg some (rW ok.kd)))
 by_cases h1:x.kd = 1
 ·rw [decide_eq_true h1] at ht
  rw [show x.sn = x.num from if_pos h1]
  cases ok.ty h1 with
  | mk e q=>rw [← q.1]; exact kZ ht (aF (aF (aA h) ok.ob rfl) e rfl)
 ·rw [decide_eq_false h1] at ht
  rw [show x.sn = -1 from if_neg h1]
  exact gK ht (jE aB)
inductive IE_ (H0:Heap) (sh p s0 al sc nr:Nat) (x2 x4:Option V) (ad:List (Str × V)) (xs:List Sh) (l:List V) (env:Env) (H:Heap):Prop where
 | mk (done rest:List Sh) (x1:Option V):l = rest.map (fun x=>.ref x.o)→env = ieE sh x1 x2 (some (.ref p)) x4→done ++ rest = xs→Ext H0 H→NmS H p s0 al sc nr false ad (done.map ent)→IE_ H0 sh p s0 al sc nr x2 x4 ad xs l env H
theorem wAa (F:Fin A imp xs H) {Q:V→Heap→Prop} (q:∀ H' p s0 al sc nr ad,Ext H H'→H[s0]? = none→NmS H' p s0 al sc nr false ad (xs.map ent)→Q (.ref p) H'):W (aC tbl (n + 3) .interface_names [.ref A.sh] H) Q:=by
 have h6:=F.len
 have hno:∀ s ∈ mV imp ++ [("SYSTEM":Str)],s ∉ xs.map Sh.name:=fun s hs w=>by
  obtain ⟨x,hx,e⟩:=List.mem_map.mp w
  have no:=pQ x.kd (F.ok x hx).kd x.at_ (Nat.lt_of_lt_of_le (F.lt hx) h6)
  rcases List.mem_append.mp hs with hs | hs
  ·have:s = "N":=by
    unfold mV at hs
    cases imp with
    | true=>exact List.mem_singleton.mp hs
    | false=>first | exact nos hs | exact nof hs | cases hs
   exact no.2.2.1 (e.trans this)
  ·exact no.2.2.2.1 (e.trans (List.mem_singleton.mp hs))
 have hnd:(mV imp ++ [("SYSTEM":Str)]).Nodup:=by cases imp <;> decide +kernel
 have his:(mV imp).length ≤ 1:=by cases imp <;> decide +kernel
 refine bK (env:=ieE A.sh none none none none) rfl ?_
 refine bC (xFa F fun tl H1 y1 g1=>?_)
 have F1:=F.ext y1
 have hsh:∃ im,H1[A.sh]? = some (fU A.ob im):=by cases F1.sh with | mk e _ _ _=>exact ⟨_,e⟩
 obtain ⟨im,hsh⟩:=hsh
 refine bC (yO (aD (aF (aA rfl) hsh rfl) (cF (gQa rfl (fun _=>rfl) F1.sh fun il H2 y2 g2=>aD (aA rfl) (aK ⟨rN g2,fun p H3 y3 n3 g3=>?_⟩)))))
 refine rOa (ns:=xs.map Sh.name) (is:=mV imp) g3 (y3.get g2) (y3.get (y2.get g1)) (by rw [List.length_map]; exact h6) his hno hnd fun H4 s0 al sc nr ad b4 S n4=>⟨rfl,?_⟩
 have e4:Ext H2 H4:=(y3.but.trans b4).fresh n3
 have e04:Ext H H4:=y1.trans (y2.trans e4)
 have hs0:H[s0]? = none:=y1.none (y2.none (y3.none n4))
 refine cB aB (aA rfl) S.gob (aG rfl) fun H5 s5=>?_
 have hpn:H[p]? = none:=y1.none (y2.none n3)
 have S5:NmS H5 p s0 al sc nr false ad (([]:List Sh).map ent):=⟨s5.self,s5.get (fun w=>by have:=S.gob; rw [← w,S.gal] at this; cases this) S.gal,s5.get (fun w=>by have:=S.gob; rw [← w,S.gsc] at this; cases this) S.gsc,s5.get (fun w=>by have:=S.gob; rw [← w,S.gs0] at this; cases this) S.gs0,S.ne,S.vals,S.len⟩
 have e5:Ext H H5:=e04.set s5 hpn
 have F5:=F.ext e5
 have hsh5:∃ im,H5[A.sh]? = some (fU A.ob im):=by cases F5.sh with | mk e _ _ _=>exact ⟨_,e⟩
 obtain ⟨im5,hsh5⟩:=hsh5
 refine cY (W.of (iJ (aF (aA rfl) hsh5 rfl) F5.ob) ?_)
 refine lB (IE_ H A.sh p s0 al sc nr (some (.ref tl)) none ad xs) ?_ ?_ ?_ _ _ _ (.mk [] xs none rfl rfl rfl e5 S5)
 ·rintro l env H' ⟨_,_,_,_,_,_,e,_⟩
  exact cO ((F.ext e).ob)
 ·rintro v l env H' ⟨done,rest,x1,hl,rfl,hx,e,S'⟩
  clear hsh5 F5 e5 S5 hpn s5 e04 e4 n4 S b4 g3 n3 y3 g2 y2 hsh F1 g1 y1 his hnd hno; cases rest with
  | nil=>first | exact nos hl | exact nof hl | cases hl
  | cons x rest =>
  cases hl
  have hxm:x ∈ xs:=by rw [← hx]; exact List.mem_append_right _ (.head _)
  have F':=F.ext e
  have ok:=F'.ok x hxm
  have hdl:done.length + 1 ≤ 6:=by have:=congrArg List.length hx; rw [List.length_append,List.length_cons] at this; exact lin [_,_,_] (.a .x (.n 1)) (.n 6) [(.a .x (.a .y (.n 1)),.z),(.z,.n 6)] rfl (Nat.le_of_eq this) h6
  have hput:put x.name (.int x.sn) (done.map ent) = (done ++ [x]).map ent:=ents fun y hy w=>by
   have hym:y ∈ xs:=by rw [← hx]; exact List.mem_append_left _ hy
   have:=F.inj hym hxm w
   have hat:=F.ats
   rw [← hx,List.map_append] at hat
   have nd:(done.map Sh.at_ ++ (x :: rest).map Sh.at_).Nodup:=by rw [hat]; exact List.nodup_range
   exact (List.nodup_append.mp nd).2.2 _ (List.mem_map.mpr ⟨y,hy,rfl⟩) _ (.head _) (by rw [this])
  refine dM (env1:=ieE A.sh (some (.ref x.o)) (some (.ref tl)) (some (.ref p)) none) rfl (iK (fZ (E_p (aA rfl) ⟨k_inst S'.gob,aD (aF (aA rfl) ok.ob rfl) (aD (jKa ok rfl) (aK (eYa S' (by rw [hput,List.length_map,List.length_append]; show done.length + 1 ≤ 10; exact lin [_] (.a .x (.n 1)) (.n 10) [(.a .x (.n 1),.n 6)] rfl hdl) fun H6 s6 S6=>aX ?_)))⟩)))
  rw [hput] at S6
  exact .mk (done ++ [x]) rest _ rfl rfl (by rw [← hx,List.append_assoc]; rfl) (e.set s6 hs0) S6
 ·rintro env H' ⟨done,rest,x1,hl,rfl,hx,e,S'⟩
  clear hsh5 F5 e5 S5 hpn s5 e04 e4 n4 S b4 g3 n3 y3 g2 y2 hsh F1 g1 y1 his hnd hno h6 F; cases rest with
  | cons _ _=>first | exact nos hl | exact nof hl | cases hl
  | nil =>
  rw [List.append_nil] at hx
  clear hl; subst hx
  exact aZ (cC (aA rfl) (q H' p s0 al sc nr ad e hs0 S'))
end
end Mine.C
end
section
namespace Mine.C
open PySem (Expr Stmt Str)
noncomputable def S1 (xs:List Sh):List Sh:=(xs.filter fun x=>!x.al) ++ xs.filter fun x=>x.al
noncomputable def later (xs:List Sh) (p:Nat):List Sh:=(xs.drop p).filter fun x=>x.al
noncomputable def jM (xs:List Sh) (p:Nat) (L:List Sh):Prop:=L = S1 xs ∨ (L = xs∧∀ y ∈ xs,y.at_ < p→y.al = false)
theorem jM.nm {xs L:List Sh} {p:Nat} (h:jM xs p L) (hp:pC xs) {k:Int} (hk:8 ≤ k):nmT (L.filter (keep p)) k = nmT (xs.filter (keep p)) k:=by
 rcases h with rfl | ⟨rfl,_⟩
 ·exact mEa hp p hk
 ·rfl
theorem jM.mem {xs L:List Sh} {p:Nat} (h:jM xs p L) {y:Sh}:y ∈ L ↔ y ∈ xs:=by
 rcases h with rfl | ⟨rfl,_⟩
 ·unfold S1
  rw [List.mem_append,List.mem_filter,List.mem_filter]
  cases y.al <;> simp
 ·rfl
theorem iGa {xs:List Sh} {p:Nat} (h:xs.map Sh.at_ = List.range xs.length):(∀ y ∈ xs.take p,y.at_ < p)∧∀ y ∈ xs.drop p,p ≤ y.at_:=by
 constructor
 ·intro y hy
  have:y.at_ ∈ (List.range xs.length).take p:=by rw [← h,← List.map_take]; exact List.mem_map.mpr ⟨y,hy,rfl⟩
  rw [List.take_range] at this
  exact Nat.lt_of_lt_of_le (List.mem_range.mp this) (Nat.min_le_left _ _)
 ·intro y hy
  have:y.at_ ∈ (List.range xs.length).drop p:=by rw [← h,← List.map_drop]; exact List.mem_map.mpr ⟨y,hy,rfl⟩
  obtain ⟨i,hi,e⟩:=List.getElem_of_mem this
  rw [List.getElem_drop,List.getElem_range] at e
  exact lin [_,_,_] .x .y [(.a .x .z,.y)] rfl (Nat.le_of_eq e)
theorem wL {xs:List Sh} {p:Nat} (h:xs.map Sh.at_ = List.range xs.length) {y:Sh} (hy:y ∈ xs):y ∈ later xs p ↔ keep p y = false:=by
 unfold later keep
 rw [List.mem_filter]
 obtain ⟨h1,h2⟩:=iGa (p:=p) h
 have hm:y ∈ xs.take p ∨ y ∈ xs.drop p:=List.mem_append.mp (by rw [List.take_append_drop]; exact hy)
 constructor
 ·rintro ⟨a,b⟩
  rw [decide_eq_false (by have:=h2 y a; exact Nat.not_lt_of_le (lin [_,_] .x .y [(.x,.y)] rfl this)),b]; rfl
 ·intro q
  obtain ⟨q1,q2⟩:=Bool.or_eq_false_iff.mp q
  refine ⟨hm.resolve_left fun w=>of_decide_eq_false q1 (h1 y w),by simpa using q2⟩
theorem jM.back {xs L:List Sh} {p:Nat} (h:xs.map Sh.at_ = List.range xs.length) (o:jM xs p L):L.filter (keep p) ++ later xs p = S1 xs:=by
 obtain ⟨h1,h2⟩:=iGa (p:=p) h
 have ht:(xs.take p).filter (keep p) = xs.take p:=List.filter_eq_self.mpr fun y hy=>by unfold keep; rw [decide_eq_true (h1 y hy)]; rfl
 have hd:(xs.drop p).filter (keep p) = (xs.drop p).filter fun x=>!x.al:=List.filter_congr fun y hy=>by unfold keep; rw [decide_eq_false (by have:=h2 y hy; exact Nat.not_lt_of_le (lin [_,_] .x .y [(.x,.y)] rfl this))]; rfl
 have hal:(xs.filter fun x=>x.al).filter (keep p) ++ later xs p = xs.filter fun x=>x.al:=by
  rw [List.filter_filter]
  have e:xs.filter (fun a=>keep p a && a.al) = (xs.take p).filter fun x=>x.al:=by
   conv=>lhs; rw [← List.take_append_drop p xs]
   rw [List.filter_append]
   have z:(xs.drop p).filter (fun a=>keep p a && a.al) = []:=List.filter_eq_nil_iff.mpr fun y hy=>by
    unfold keep; rw [decide_eq_false (by have:=h2 y hy; exact Nat.not_lt_of_le (lin [_,_] .x .y [(.x,.y)] rfl this))]; cases y.al <;> simp
   rw [z,List.append_nil]
   exact List.filter_congr fun y hy=>by unfold keep; rw [decide_eq_true (h1 y hy)]; rfl
  rw [e]
  unfold later
  rw [← List.filter_append,List.take_append_drop]
 clear hd ht h2 h; rcases o with rfl | ⟨rfl,hb⟩
 ·unfold S1
  rw [List.filter_append,List.append_assoc,hal]
  refine congrArg (· ++ _) (List.filter_eq_self.mpr fun y hy=>?_)
  have:=(List.mem_filter.mp hy).2
  unfold keep; rw [this]; exact Bool.or_true _
 ·have tn:(L.take p).filter (fun x=>x.al) = []:=List.filter_eq_nil_iff.mpr fun y hy q=>by
   rw [hb y (List.mem_of_mem_take hy) (h1 y hy)] at q; first | exact nos q | exact nof q | cases q
  have e1:L.filter (keep p) = L.filter fun x=>!x.al:=List.filter_congr fun y hy=>by
   unfold keep
   clear hal h1; by_cases w:y.at_ < p
   ·rw [decide_eq_true w,hb y hy w]; rfl
   ·rw [decide_eq_false w]; rfl
  have e2:later L p = L.filter fun x=>x.al:=by
   unfold later
   conv=>rhs; rw [← List.take_append_drop p L]
   rw [List.filter_append,tn]; rfl
  rw [e1,e2]; rfl
theorem pXa {L:List Sh} {s:Str}:jY s (L.map ent) = (L.filter fun y=>!decide (y.name = s)).map ent:=by
 unfold jY
 rw [List.filter_map]; rfl
end Mine.C
end
section
namespace Mine.C
open PySem (Expr Stmt Str)
section
variable {A:Ad} {imp:Bool} {xs:List Sh} {H0 H:Heap} {n pn:Nat} {cf:aU}
theorem sWa {env:Env} {a b:IE} {x y:Bool} (ha:PE cf env H a (.bool x)) (hb:PE cf env H b (.bool y)):PE cf env H (.and a b) (.bool (x && y)):=by
 cases x with
 | true=>exact hZa ha hb
 | false=>exact xM ha
theorem eNa {x:Sh} {d al sc nr:Nat} (ok:gG H d x) (h1:x.kd = 1) (hp:H[pn]? = some (nmF al sc nr)):aC tbl (n + 1) .defines [.ref pn,.ref x.o] H = some (.bool (!x.al),H):=by
 cases ok.ty h1 with
 | @mk num form size base len fs ps mod lab hid e q =>
 refine xH (env:=[some (.ref pn),some (.ref x.o),none,none,none,none]) rfl rfl ?_
 have h:=sWa (cf:=aC tbl n) (aR (aF (aF (aA (env:=[some (.ref pn),some (.ref x.o),none,none,none,none]) (i:=1) rfl) ok.ob (n:=14) rfl) e (n:=8) rfl) (aF (aA (i:=0) rfl) hp (n:=8) rfl) (op:=.Eq) rfl) (aR (aF (aF (aA (i:=1) rfl) ok.ob (n:=14) rfl) e (n:=9) rfl) (aF (aA (i:=1) rfl) ok.ob (n:=12) rfl) (op:=.Eq) rfl)
 have hv:(decide (mod = "M") && decide (lab = x.name)) = !x.al:=by
  cases ha:x.al with
  | true=>rw [decide_eq_false (q.2.1 ha)]; exact Bool.and_false _
  | false =>
   obtain ⟨a,b,_⟩:=q.2.2 ha
   rw [decide_eq_true a,decide_eq_true b]; rfl
 rw [← hv]
 exact h
theorem qOa {a:Nat} {vs:List V} {k:Nat} {Q:V→Heap→Prop} (g:H[a]? = some (.list vs)) (hk:k < 1000) (hl:vs.length ≤ 1000) (q:kJ H Q (.list (vs.drop k))):W (uC (.ref a) (.int k) H) Q:=by
 show W ((cN H[a]?).bind fun vs=>aP (decide (0 ≤ (k:Int)∧(k:Int) < 1000)) (fC (vs.drop k) H)) Q
 rw [g]
 show W (aP (decide _) _) Q
 rw [cR ⟨by exact Int.natCast_nonneg _,by exact dD (b:=1000) (lin [_] (.a .x (.n 1)) (.n 1000) [(.a .x (.n 1),.n 1000)] rfl hk)⟩]
 exact bJ (by rw [List.length_drop]; exact lin [_,_] .x (.n 1000) [(.x,.y),(.y,.n 1000)] rfl (Nat.sub_le _ _) hl) q
theorem nNa {a b:Str} (h:V.str a = .str b):a = b:=by cases h; rfl
noncomputable def deE (pn ob p:Nat) (x3 x4 x5 x6:Option V):Env:=[some (.ref pn),some (.ref ob),some (.int p),x3,x4,x5,x6,none,none,none]
noncomputable def alV (H:Heap) (xs:List Sh) (v:V):Bool:=xs.any fun x=>x.al && pL v (.ref x.o)
theorem lXa {p al sc nr:Nat} {x3 x4 x5 x6:Option V} (F:Fin A imp xs H) (hpl:p < 1000) (hp:H[pn]? = some (nmF al sc nr)) {Q:V→Heap→Prop} (q:∀ b H1,Ext H H1→H1[b]? = some (.list ((later xs p).map fun x=>.ref x.o))→H[b]? = none→Q (.ref b) H1) :
  W (aH (aC tbl (n + 1)) (deE pn A.ob p x3 x4 x5 x6) (.comp [6] false (.of (.tail (.loc 1) (.loc 2))) (.cons (.and (.val (.cmp .Eq (.attr (.loc 6) 13) (.const (.str ("type"))))) (.not (.val (.call .defines (.cons (.loc 0) (.cons (.loc 6) .nil)))))) .nil) (.loc 6)) H) Q:=by
 refine mD (gF (yN (E_p (aA rfl) (E_p (aA rfl) (qOa F.ob hpl (by rw [List.length_map]; exact Nat.le_trans F.len (aG rfl)) fun c H1 x1 g1 m1=>?_)))))
 rw [← List.map_drop] at g1
 refine ⟨⟨_,.list c _⟩,by show itO c H1[c]? = _; rw [g1]; rfl,?_⟩
 have F1:=F.ext x1
 have hinj:∀ x ∈ xs,∀ y ∈ xs,x.o = y.o→x = y:=fun x hx y hy e=>F1.inj hx hy (nNa ((vU (F1.ok x hx).ob).symm.trans (e ▸ vU (F1.ok y hy).ob)))
 have hal:∀ x ∈ xs,alV H1 xs (.ref x.o) = x.al:=fun x hx=>by
  unfold alV
  cases ha:x.al with
  | true=>exact List.any_eq_true.mpr ⟨x,hx,by rw [ha]; exact decide_eq_true rfl⟩
  | false =>
   refine List.any_eq_false.mpr fun y hy q=>?_
   obtain ⟨q1,q2⟩:=Bool.and_eq_true_iff.mp q
   rw [← hinj x hx y hy (of_decide_eq_true q2),ha] at q1
   cases q1
 refine W.of (xR (it:=⟨(xs.drop p).map fun x=>.ref x.o,.list c ((xs.drop p).map fun x=>.ref x.o)⟩) (p:=alV H1 xs) (g:=id) (cO g1) _ fun v hv=>?_) (bJ (by rw [List.length_map]; exact Nat.le_trans (List.length_filter_le _ _) (by rw [List.length_map,List.length_drop]; have:=F.len; exact lin [_,_] .x (.n 1000) [(.x,.y),(.y,.n 6)] rfl (Nat.sub_le _ _) this)) fun b H2 x2 g2 m2=>q b H2 (x1.trans x2) ?_ (x1.none m2))
 ·obtain ⟨x,hx,rfl⟩:=List.mem_map.mp hv
  have hx:=List.mem_of_mem_drop hx
  have ok:=F1.ok x hx
  refine ⟨deE pn A.ob p x3 x4 x5 (some (.ref x.o)),rfl,?_,fun _=>aA rfl⟩
  rw [hal x hx]
  have hty:PT (aC tbl (n + 1)) (deE pn A.ob p x3 x4 x5 (some (.ref x.o))) H1 (.val (.cmp .Eq (.attr (.loc 6) 13) (.const (.str "type")))) (decide (x.kd = 1)):=aO (aR (aF (aA rfl) ok.ob rfl) aB (congrArg some (rW ok.kd)))
  have ht:PT (aC tbl (n + 1)) (deE pn A.ob p x3 x4 x5 (some (.ref x.o))) H1 (.and (.val (.cmp .Eq (.attr (.loc 6) 13) (.const (.str ("type"))))) (.not (.val (.call .defines (.cons (.loc 0) (.cons (.loc 6) .nil)))))) x.al:=by
   by_cases h1:x.kd = 1
   ·rw [decide_eq_true h1] at hty
    have:=gO hty (zW (aO (uF (aA (i:=0) rfl) (aA (i:=6) rfl) (eNa (n:=n) ok h1 (x1.get hp)))))
    rwa [Bool.not_not] at this
   ·rw [decide_eq_false h1] at hty
    rw [ok.al h1]
    exact jH hty
  exact (bI ht _).trans (by cases x.al <;> rfl)
 ·rw [g2,List.map_id,List.filter_map]
  unfold later
  refine congrArg (fun l=>some (O.list (l.map fun x:Sh=>V.ref x.o))) (List.filter_congr fun x hx=>hal x (List.mem_of_mem_drop hx))
end
end Mine.C
end
section
namespace Mine.C
open PySem (Expr Stmt Str)
noncomputable def TC (n:Nat) (H0:Heap) (nm:Int→Option Str) (f:F) (t:Nat) (w:Str):Prop:=∀ H p s0 sd,Ext H0 H→PN H p s0 sd→(∀ k,8 ≤ k→fnd k sd = nm k)→W (aC tbl n f [.ref p,.ref t] H) (Ret H (.str w))
inductive DL (H0 Hs:Heap) (pn ob p lt s0 al sc nr:Nat) (x5:Option V) (ad:List (Str × V)) (lat:List Sh) (g:List Sh→List Sh) (l:List V) (env:Env) (H:Heap):Prop where
 | mk (done rest:List Sh) (x3 x6:Option V):l = rest.map (fun x=>.ref x.o)→env = deE pn ob p x3 (some (.ref lt)) x5 x6→done ++ rest = lat→Ext H0 H→But s0 Hs H→NmS H pn s0 al sc nr false ad ((g done).map ent)→DL H0 Hs pn ob p lt s0 al sc nr x5 ad lat g l env H
section
variable {A:Ad} {imp:Bool} {xs:List Sh} {H0 Hs H:Heap} {n pn p lt s0 al sc nr:Nat} {x3 x5 x6:Option V} {ad:List (Str × V)} {lat:List Sh} {g:List Sh→List Sh} {b r:ISs} {Q:Fl × Env→Heap→Prop}
theorem iXa {cf:aU} (hl:Hs[lt]? = some (.list (lat.map fun x=>.ref x.o))) (hne:lt ≠ s0) (e:Ext H0 H) (bt:But s0 Hs H) (S:NmS H pn s0 al sc nr false ad ((g []).map ent))
  (step:∀ H' x done x6,x ∈ lat→(∃ rest,done ++ x :: rest = lat)→Ext H0 H'→NmS H' pn s0 al sc nr false ad ((g done).map ent)→W (aJ cf b (deE pn A.ob p (some (.ref x.o)) (some (.ref lt)) x5 x6) H') fun y H2=>y.1 = .next∧y.2 = deE pn A.ob p (some (.ref x.o)) (some (.ref lt)) x5 x6∧Ext H0 H2∧But s0 H' H2∧NmS H2 pn s0 al sc nr false ad ((g (done ++ [x])).map ent))
  (q:∀ H' x3 x6,Ext H0 H'→But s0 Hs H'→NmS H' pn s0 al sc nr false ad ((g lat).map ent)→W (aJ cf r (deE pn A.ob p x3 (some (.ref lt)) x5 x6) H') Q) :
  W (aJ cf (.cons (.for [3] false (.of (.loc 4)) b) r) (deE pn A.ob p x3 (some (.ref lt)) x5 x6) H) Q:=by
 refine cY (W.of (iJ (aA rfl) (bt _ _ hne hl)) ?_)
 refine lB (DL H0 Hs pn A.ob p lt s0 al sc nr x5 ad lat g) ?_ ?_ ?_ _ _ _ (.mk [] lat x3 x6 rfl rfl rfl e bt S)
 ·rintro l env H' ⟨_,_,_,_,_,_,_,_,b',_⟩
  exact cO (b' _ _ hne hl)
 ·rintro v l env H' ⟨done,rest,x3,x6,h1,rfl,h3,e',b',S'⟩
  clear S bt e hne hl; cases rest with
  | nil=>first | exact nos h1 | exact nof h1 | cases h1
  | cons x rest =>
  cases h1
  refine dM (env1:=deE pn A.ob p (some (.ref x.o)) (some (.ref lt)) x5 x6) rfl ((step H' x done x6 (by rw [← h3]; exact List.mem_append_right _ (.head _)) ⟨rest,h3⟩ e' S').mono fun y H2 k=>?_)
  obtain ⟨fl,en⟩:=y
  obtain ⟨k1,k2,k3,k4,k5⟩:=k
  have k1:fl = .next:=k1
  clear step; subst k1
  exact .mk (done ++ [x]) rest _ _ rfl k2 (by rw [← h3,List.append_assoc]; rfl) k3 (b'.trans k4) k5
 ·rintro env H' ⟨done,rest,x3,x6,h1,rfl,h3,e',b',S'⟩
  clear step S bt e hne hl; cases rest with
  | cons _ _=>first | exact nos h1 | exact nof h1 | cases h1
  | nil =>
  rw [List.append_nil] at h3
  clear h1; subst h3
  exact aZ (q H' x3 x6 e' b' S')
noncomputable def mR (done:List Sh) (y:Sh):Bool:=done.all fun z=>!decide (y.name = z.name)
theorem sYa {cf:aU} {L:List Sh} {x:Sh} {done:List Sh} {d:Nat} (hs0:H0[s0]? = none) (e:Ext H0 H) (ok:gG H d x) (S:NmS H pn s0 al sc nr false ad ((L.filter (mR done)).map ent)) {x4:Option V} {ob:Nat} :
  W (aJ cf (.cons (.expr (.bmeth .pop (.sub (.attr (.loc 0) 27) (.neg (.const (.int (1))))) (.cons (.attr (.loc 3) 12) (.cons (.const (.none)) .nil)))) .nil) (deE pn ob p (some (.ref x.o)) x4 x5 x6) H) fun y H2=>y.1 = .next∧y.2 = deE pn ob p (some (.ref x.o)) x4 x5 x6∧Ext H0 H2∧But s0 H H2∧NmS H2 pn s0 al sc nr false ad ((L.filter (mR (done ++ [x]))).map ent):=by
 have hl:=S.len
 refine iK (fO (E_p (cQ (vs:=[.ref s0]) (aF (aA rfl) S.gob rfl) (jE aB) S.gsc rfl) ⟨xY (.inr rfl) S.gs0,aD (aF (aA rfl) ok.ob rfl) (aD aB (aK (vBa S.gs0 (Nat.le_trans hl (aG rfl)) fun H' s=>aX ⟨rfl,rfl,e.set s hs0,s.but,?_⟩)))⟩))
 have hd:jY x.name ((L.filter (mR done)).map ent) = (L.filter (mR (done ++ [x]))).map ent:=by
  rw [pXa,List.filter_filter]
  refine congrArg (List.map ent) (List.filter_congr fun y hy=>?_)
  unfold mR
  rw [List.all_append,Bool.and_comm]
  simp only [List.all_cons,List.all_nil,Bool.and_true]
 rw [hd] at s
 refine S.set s ?_
 rw [← hd]
 exact Nat.le_trans (List.length_filter_le _ _) hl
theorem nRa {L:List Sh} {x:Sh} {done:List Sh} {d:Nat} (hs0:H0[s0]? = none) (e:Ext H0 H) (ok:gG H d x) (h1:x.kd = 1) (hno:∀ y ∈ L ++ done,y.name ≠ x.name) (hlen:(L ++ done).length < 10) (S:NmS H pn s0 al sc nr false ad ((L ++ done).map ent)) {x4:Option V} {ob:Nat} :
  W (aJ (aC tbl (n + 1)) (.cons (.expr (.ometh .enter .nms (.loc 0) (.cons (.attr (.loc 3) 12) (.cons (.attr (.attr (.loc 3) 14) 0) .nil)))) .nil) (deE pn ob p (some (.ref x.o)) x4 x5 x6) H) fun y H2=>y.1 = .next∧y.2 = deE pn ob p (some (.ref x.o)) x4 x5 x6∧Ext H0 H2∧But s0 H H2∧NmS H2 pn s0 al sc nr false ad ((L ++ (done ++ [x])).map ent):=by
 have hput:=ents hno
 rw [List.append_assoc] at hput
 clear hno; cases ok.ty h1 with
 | @mk num form size base len fs ps mod lab hid et q =>
 have hsn:x.sn = num:=(if_pos h1).trans q.1.symm
 rw [hsn] at hput
 refine iK (fZ (E_p (aA rfl) ⟨k_inst S.gob,aD (aF (aA rfl) ok.ob rfl) (aD (aF (aF (aA rfl) ok.ob rfl) et rfl) (aK (eYa S ?_ fun H6 s6 S6=>aX ⟨rfl,rfl,e.set s6 hs0,s6.but,?_⟩)))⟩))
 ·rw [hput,List.length_map,← List.append_assoc,List.length_append]; exact hlen
 ·rw [← hput]; exact S6
end
end Mine.C
end
section
namespace Mine.C
open PySem (Expr Stmt Str)
section
variable {A:Ad} {imp:Bool} {xs:List Sh} {H0 H:Heap} {n pn s0 al sc nr:Nat} {ad:List (Str × V)} {L:List Sh}
theorem Fin.nodup (F:Fin A imp xs H):(xs.map Sh.at_).Nodup:=by rw [F.ats]; exact List.nodup_range
theorem wLa {p:Nat} (F:Fin A imp xs H) (o:jM xs p L):L.filter (mR (later xs p)) = L.filter (keep p):=List.filter_congr fun y hy=>by
 have hy:=o.mem.mp hy
 cases hk:keep p y with
 | true =>
  refine List.all_eq_true.mpr fun z hz=>?_
  rw [decide_eq_false fun w=>?_]; rfl
  have hzx:=List.mem_of_mem_drop (List.mem_filter.mp hz).1
  rw [← F.inj hy hzx w,wL F.ats hy,hk] at hz
  cases hz
 | false =>
  refine List.all_eq_false.mpr ⟨y,(wL F.ats hy).mpr hk,?_⟩
  rw [decide_eq_true rfl]; exact fun q=>nomatch q
noncomputable def dBa:ISs:=(.cons (.for [3] false (.of (.loc 4)) (.cons (.expr (.ometh .enter .nms (.loc 0) (.cons (.attr (.loc 3) 12) (.cons (.attr (.attr (.loc 3) 14) 0) .nil)))) .nil)) (.cons (.ret (.loc 5)) .nil))
set_option tactic.hygienic true in
theorem kVa {Hs:Heap} {lt p:Nat} {x3 x6:Option V} {w:Str} {Q:V→Heap→Prop} (F:Fin A imp xs H0) (o:jM xs p L) (hl:H[lt]? = some (.list ((later xs p).map fun x=>.ref x.o))) (hne:lt ≠ s0) (hs0:H0[s0]? = none) (e:Ext H0 H) (S:NmS H pn s0 al sc nr false ad ((L.filter (keep p)).map ent))
  (q:∀ H',Ext H0 H'→But s0 H H'→NmS H' pn s0 al sc nr false ad ((S1 xs).map ent)→Q (.str w) H'):W (aJ (aC tbl (n + 1)) dBa (deE pn A.ob p x3 (some (.ref lt)) (some (.str w)) x6) H) (Out Q):=by
 have hback:=o.back F.ats
 have hlen:(L.filter (keep p) ++ later xs p).length ≤ 6:=by
  rw [hback]
  unfold S1
  rw [List.length_append]
  have:((xs.filter fun x=>!x.al).length + (xs.filter fun x=>x.al).length) ≤ xs.length:=by
   rw [← List.countP_eq_length_filter,← List.countP_eq_length_filter,Nat.add_comm]
   have:=List.length_eq_countP_add_countP (fun x:Sh=>x.al) (l:=xs)
   simp only [Bool.not_eq_true,Bool.decide_eq_false] at this
   exact lin [_,_,_] (.a .x .y) .z [(.a .x .y,.z)] rfl (Nat.le_of_eq this.symm)
  exact Nat.le_trans this F.len
 refine iXa (g:=fun done=>L.filter (keep p) ++ done) (Hs:=H) hl hne e (fun _ _ _ q=>q) (by rw [List.append_nil]; exact S) (fun H' x done x6 hx hd e' S'=>?_) fun H' x3 x6 e' b' S'=>cC (aA rfl) (q H' e' b' (hback ▸ S'))
 have hxl:=List.mem_filter.mp hx
 have hxx:=List.mem_of_mem_drop hxl.1
 have ok:=F.ok x hxx
 have h1:x.kd = 1:=by
  false_or_by_contra
  rename_i w
  have:=ok.al w
  rw [this] at hxl
  exact nomatch hxl.2
 obtain ⟨rest,hd⟩:=hd
 have hdn:done.length < (later xs p).length:=by rw [← hd,List.length_append]; show _ < _ + (rest.length + 1); exact lin [_,_] (.a .x (.n 1)) (.a .x (.a .y (.n 1))) [] rfl
 refine nRa hs0 e' ((F.ext e').ok x hxx) h1 (fun y hy w=>?_) (by rw [List.length_append] at hlen ⊢; exact lin [_,_,_] (.a (.a .x .y) (.n 1)) (.n 10) [(.a .x .z,.n 6),(.a .y (.n 1),.z)] rfl hlen hdn) S'
 rcases List.mem_append.mp hy with hy | hy
 ·obtain ⟨hy,hk⟩:=List.mem_filter.mp hy
  have hy:=o.mem.mp hy
  rw [← F.inj hy hxx w,wL F.ats hy,hk] at hx
  cases hx
 ·have hyx:y ∈ xs:=List.mem_of_mem_drop (List.mem_filter.mp (show y ∈ later xs p by rw [← hd]; exact List.mem_append_left _ hy)).1
  have hyy:=F.inj hyx hxx w
  have nd:((later xs p).map Sh.at_).Nodup:=F.nodup.sublist (((List.filter_sublist).trans (List.drop_sublist p xs)).map Sh.at_)
  rw [← hd,List.map_append] at nd
  exact (List.nodup_append.mp nd).2.2 _ (List.mem_map.mpr ⟨y,hy,rfl⟩) _ (.head _) (by rw [hyy])
theorem mUa (N:Fin A imp xs H0) {x:Sh} (hx:x ∈ xs) (h1:x.kd = 1) (o:jM xs x.at_ L) {w:Str} (tc:TC (n + 1) H0 (nmT (xs.filter (keep x.at_))) (if x.al = true then .type_text else .structure_text) x.t w) (hs0:H0[s0]? = none) (e:Ext H0 H) (S:NmS H pn s0 al sc nr false ad (L.map ent)) :
  W (aC tbl (n + 2) .declared_text [.ref pn,.ref A.ob,.int x.at_] H) fun v H'=>v = .str w∧Ext H0 H'∧But s0 H H'∧NmS H' pn s0 al sc nr false ad ((S1 xs).map ent):=by
 have hlt:=N.lt hx
 have h6:=N.len
 refine bK (env:=deE pn A.ob x.at_ none none none none) rfl ?_
 refine bC (lXa (n:=n) (N.ext e) (by exact lin [_,_] (.a .x (.n 1)) (.n 1000) [(.a .x (.n 1),.y),(.y,.n 6)] rfl hlt h6) S.gob fun lt H1 y1 g1 n1=>?_)
 have hne:lt ≠ s0:=(bV S.gs0 n1).symm
 refine iXa (g:=fun done=>L.filter (mR done)) (Hs:=H1) g1 hne (e.trans y1) (fun _ _ _ q=>q) (by rw [show L.filter (mR []) = L from List.filter_eq_self.mpr fun _ _=>rfl]; exact S.ext y1) (fun H' z done x6 hz _ e' S'=>sYa hs0 e' ((N.ext e').ok z (List.mem_of_mem_drop (List.mem_filter.mp hz).1)) S') fun H2 x3 x6 e2 b2 S2=>?_
 rw [wLa N o] at S2
 have F2:=N.ext e2
 have ok:=F2.ok x hx
 have hsub:PE (aC tbl (n + 1)) (deE pn A.ob x.at_ x3 (some (.ref lt)) none x6) H2 (.sub (.loc 1) (.loc 2)) (.ref x.o):=by
  obtain ⟨i,hi,e⟩:=List.getElem_of_mem hx
  have ha:=N.at_ hi
  rw [e] at ha
  subst ha
  exact cQ (aA rfl) (aA rfl) F2.ob (by rw [lM (by rw [List.length_map]; exact hi),List.getElem_map,e])
 have hnm:∀ k,8 ≤ k→fnd k ((L.filter (keep x.at_)).map ent) = nmT (xs.filter (keep x.at_)) k:=fun k hk=>(yU _).trans (o.nm N.pair hk)
 have htc:=tc H2 pn s0 _ e2 (S2.pn (tX _)) hnm
 have rest:∀ {f:F},(if x.al = true then F.type_text else F.structure_text) = f→W (aJ (aC tbl (n + 1)) (.cons (.setl 5 (.call f (.cons (.loc 0) (.cons (.attr (.sub (.loc 1) (.loc 2)) 14) .nil)))) .nil) (deE pn A.ob x.at_ x3 (some (.ref lt)) none x6) H2) (Aft (aC tbl (n + 1)) dBa (Out fun v H'=>v = .str w∧Ext H0 H'∧But s0 H H'∧NmS H' pn s0 al sc nr false ad ((S1 xs).map ent))):=fun {f} hf=>by
  rw [hf] at htc
  refine bC (bO (aD (aA rfl) (aD (aF hsub ok.ob rfl) (aK (htc.mono fun v H3 k=>?_)))))
  obtain ⟨rfl,e3⟩:=k
  exact aX (aZ (kVa (Hs:=H) N o (e3.get (b2 _ _ hne g1)) hne hs0 (e2.trans e3) (S2.ext e3) fun H4 e4 b4 S4=>⟨rfl,e4,y1.but.trans (b2.trans (e3.but.trans b4)),S4⟩))
 have htest:PT (aC tbl (n + 1)) (deE pn A.ob x.at_ x3 (some (.ref lt)) none x6) H2 (.val (.call .defines (.cons (.loc 0) (.cons (.sub (.loc 1) (.loc 2)) .nil)))) (!x.al):=aO (uF (aA rfl) hsub (eNa ok h1 S2.gob))
 refine gZ htest (fun w=>rest ?_) fun w=>rest ?_
 ·rw [if_neg (by simpa using w)]
 ·rw [if_pos (by simpa using w)]
end
end Mine.C
end
section
namespace Mine.C
open PySem (Expr Stmt Str)
theorem tXa {H:Heap} {p t n fs ps hid v:Nat} {num size len:Int} {base:V} {mod lab:Str} (ht:H[t]? = some (tyF num "set" size base len fs ps mod lab hid)) (hv:v < 256):W (aC tbl (n + 3) .typed_constant [.ref p,.ref t,.int v] H) (Ret H (.str (qZ (cP v 33 0)))):=by
 refine xZ (w:=.none) (H':=H) ht (by decide +kernel) ?_
 refine bK (env:=[some (.ref p),some (.ref t),some (.int v),none,none,none,none]) rfl ?_
 have hc:∀ {e b},decide (("set":Str) = e) = b→PT (aC tbl (n + 1)) [some (.ref p),some (.ref t),some (.int v),none,none,none,none] H (.val (.cmp .Eq (.attr (.loc 1) 1) (.const (.str e)))) b:=fun h=>aO (aR (aF (aA rfl) ht rfl) aB (congrArg some h))
 refine bH (hc (by decide +kernel)) (bF (bH (hc (by decide +kernel)) (bF (bH (hc (by decide +kernel)) (bF (bH (hc (by decide +kernel)) (bF (cJ (hc (by decide +kernel)) ?_))))))))
 with_reducible refine cM (bO (aD (aA (by with_unfolding_all rfl)) (aK ?_)))
 have hm:0 ≤ (v:Int)∧(v:Int) < 256:=⟨by exact Int.natCast_nonneg _,by exact dD (b:=256) (lin [_] (.a .x (.n 1)) (.n 256) [(.a .x (.n 1),.n 256)] rfl hv)⟩
 with_reducible refine (oHa hm).mono fun v H' k=>?_
 exact k
theorem uAa {H:Heap} {p s0 n t:Nat} {sd:List (Str × V)} {val:V} {w:Str} (N:PN H p s0 sd) (h1:look ("CHR":Str) sd = none) (h2:look ("TRUE":Str) sd = none) (h3:look ("FALSE":Str) sd = none) (T:TyW H t fun _ form _ _ _ _=>CV form val w):W (aC tbl (n + 4) .typed_constant [.ref p,.ref t,val] H) (Ret H (.str w)):=by
 cases T with
 | @mk num form size base len fs ps mod lab hid e q =>
 cases q with
 | int v hv=>exact W.of (const_int (n:=n + 1) e ⟨by exact Int.natCast_nonneg _,by exact dD (b:=2000) (lin [_] (.a .x (.n 1)) (.n 2000) [(.a .x (.n 1),.n 2000)] rfl hv)⟩) ⟨rfl,Ext.refl _⟩
 | chr v hv=>exact W.of (xGa (n:=n + 2) N h1 e ⟨by exact Int.natCast_nonneg _,by exact dD (b:=2000) (lin [_] (.a .x (.n 1)) (.n 2000) [(.a .x (.n 1),.n 256)] rfl hv)⟩) ⟨rfl,Ext.refl _⟩
 | boo v hv =>
  refine (pNa (n:=n) N h2 h3 e).mono fun u H' k=>⟨k.1.trans ?_,by rw [k.2]; exact Ext.refl _⟩
  unfold tfT
  clear h3 h2 h1 N; by_cases hh:v = 1
  ·rw [if_pos hh,if_pos (by exact qN (b:=1) hh)]
  ·rw [if_neg hh,if_neg (by exact fun q=>hh (oO (b:=1) q))]
 | set v hv=>exact tXa (n:=n + 1) e hv
 | str=>exact (jJa (n:=n + 1) e).mono fun u H' k=>⟨k.1,by rw [k.2]; exact Ext.refl _⟩
theorem oKa {form w:Str} {val:V} (h:CV form val w):SL 500 w:=by
 cases h with
 | int v hv=>exact (jJ v hv).mono rfl
 | chr v hv=>exact SL.mono (aV (aV (aN (m:=4) (by kernel_rfl)) (jJ v (by exact lin [_] (.a .x (.n 1)) (.n 2000) [(.a .x (.n 1),.n 256)] rfl hv))) (aN (m:=1) (by kernel_rfl))) rfl
 | boo v hv=>unfold tfT; split <;> exact aN (by kernel_rfl)
 | set v hv =>
  have h2:=(wN (rs:=cP v 33 0) (Nat.le_trans vL (aG rfl)) (vH (by exact lin [] (.n 0) (.n 33) [] rfl))).2
  exact SL.mono (aV (aV (aN (m:=1) (by kernel_rfl)) h2) (aN (m:=1) (by kernel_rfl))) rfl
 | str=>exact aN (by kernel_rfl)
noncomputable def LX (n:Nat) (H0:Heap) (nm:Int→Option Str) (f:F) (t:Nat) (w:Str):Prop:=∀ H l,Ext H0 H→LN H l nm→W (aC tbl n f [.ref l,.ref t] H) (Ret H (.str w))
noncomputable def Nm (xs:List Sh) (x:Sh):Int→Option Str:=if x.kd = 1 then nmT (xs.filter (keep x.at_)) else nmT xs
noncomputable def fP (x:Sh):F:=if x.kd = 3 then .signature_text else if x.kd = 2 ∨ x.al = true then .type_text else .structure_text
noncomputable def fL (x:Sh):F:=if x.kd = 3 then .lsignature else if x.kd = 2 ∨ x.al = true then .ltext else .lstructure
structure WOK (xs:List Sh) (H0:Heap) (x:Sh) (w:Str):Prop where
 len:SL 900000 w
 con:x.kd = 0→w = x.w
 prg:x.kd ≠ 0→∀ n,TC (n + 30) H0 (Nm xs x) (fP x) x.t w
 law:x.kd ≠ 0→∀ n,LX (n + 30) H0 (Nm xs x) (fL x) x.t w
theorem cNa {l:List Sh} {k:Int} {s:Str} (h:nmT l k = some s):∃ x ∈ l,x.name = s:=by
 unfold nmT at h
 obtain ⟨x,h1,h2⟩:=Option.map_eq_some_iff.mp h
 exact ⟨x,List.mem_of_find?_eq_some h1,h2⟩
section
variable {A:Ad} {imp:Bool} {xs:List Sh} {H:Heap}
theorem Fin.nm4 (N:Fin A imp xs H) (x:Sh):∀ k s,Nm xs x k = some s→SL 4 s:=fun k s h=>by
 have hm:∃ y ∈ xs,y.name = s:=by
  unfold Nm at h
  split at h
  ·obtain ⟨y,a,b⟩:=cNa h
   exact ⟨y,(List.mem_filter.mp a).1,b⟩
  ·exact cNa h
 clear h; obtain ⟨y,hy,rfl⟩:=hm
 exact (N.sl hy).mono rfl
theorem Bd6:Bd 6 = 177460:=by decide +kernel
theorem wok (N:Fin A imp xs H) {x:Sh} (hx:x ∈ xs):∃ w,WOK xs H x w:=by
 have ok:=N.ok x hx
 have hnm:=N.nm4 x
 have both:∀ t,GT H 6 t→∃ s,gD (Nm xs x) H 6 t s:=fun t g=>uI hnm 6 t (by decide) g
 have lim:∀ {t s},gD (Nm xs x) H 6 t s→SL 177460 s:=fun h=>by have:=h.len; rwa [Bd6] at this
 have tv:(fP x = .type_text∧fL x = .ltext)→(x.kd = 1 ∨ x.kd = 2)→∃ w,WOK xs H x w:=fun hf hk=>by
  obtain ⟨s,hs⟩:=both x.t (ok.tv hk)
  refine ⟨s,(lim hs).mono rfl,fun w=>(by rw [w] at hk; exact hk.elim (fun q=>nomatch q) fun q=>nomatch q),fun _ n=>?_,fun _ n=>?_⟩
  ·rw [hf.1]; exact fun H' p s0 sd e P q=>hs.prg (n + 9) H' p s0 sd e P q
  ·rw [hf.2]; exact fun H' l e L=>hs.law (n + 9) H' l e L
 clear hx N; rcases k4 x.kd ok.kd with h0 | h1 | h2 | h3
 ·cases ok.con h0 with
  | mk e q=>exact ⟨x.w,(oKa q).mono rfl,fun _=>rfl,fun w=>absurd h0 w,fun w=>absurd h0 w⟩
 ·cases ha:x.al with
  | true=>exact tv ⟨by unfold fP; rw [h1,ha]; rfl,by unfold fL; rw [h1,ha]; rfl⟩ (.inl h1)
  | false =>
   cases ok.ty h1 with
   | @mk num form size base len fs ps mod lab hid e q =>
   obtain ⟨_,rfl,_⟩:=q.2.2 ha
   obtain ⟨d,hd,g⟩:=dOa (ok.tv (.inl h1)) e
   obtain ⟨s,hs⟩:=iIa (nm:=Nm xs x) (d:=d) (by exact lin [_] .x (.n 6) [(.a .x (.n 1),.n 6)] rfl hd) (fun b hb=>uI hnm d b (by exact lin [_] .x (.n 7) [(.a .x (.n 1),.n 6)] rfl hd) hb) g
   have hle:Bd (d + 1) ≤ 177460:=by
    have:∀ d:Nat,d < 6→Nat.ble (Bd (d + 1)) 177460 = true:=by decide +kernel
    exact Nat.le_of_ble_eq_true (this d hd)
   refine ⟨s,Nat.le_trans hs.len (Nat.le_trans hle (aG rfl)),fun w=>(by rw [h1] at w; cases w),fun _ n=>?_,fun _ n=>?_⟩
   ·rw [show fP x = .structure_text by unfold fP; rw [h1,ha]; rfl]
    intro H' p s0 sd e P q
    have:=hs.prg (n + 30 - (3 * d + 5)) H' p s0 sd e P q
    rwa [show n + 30 - (3 * d + 5) + 3 * d + 5 = n + 30 by exact Nat.le_antisymm (lin [_,_,_] (.a (.a .x (.m 3 .y)) (.n 5)) (.a .z (.n 30)) [(.a .x (.a (.m 3 .y) (.n 5)),.a .z (.n 30))] rfl (eN (lin [_,_] (.a (.m 3 .x) (.n 5)) (.a .y (.n 30)) [(.a .x (.n 1),.n 6),(.a .x (.n 1),.n 6),(.a .x (.n 1),.n 6)] rfl hd hd hd))) (lin [_,_,_] (.a .x (.n 30)) (.a (.a .y (.m 3 .z)) (.n 5)) [(.a .x (.n 30),.a .y (.a (.m 3 .z) (.n 5)))] rfl (dK _ _))] at this
   ·rw [show fL x = .lstructure by unfold fL; rw [h1,ha]; rfl]
    intro H' l e L
    have:=hs.law (n + 30 - (3 * d + 5)) H' l e L
    rwa [show n + 30 - (3 * d + 5) + 3 * d + 5 = n + 30 by exact Nat.le_antisymm (lin [_,_,_] (.a (.a .x (.m 3 .y)) (.n 5)) (.a .z (.n 30)) [(.a .x (.a (.m 3 .y) (.n 5)),.a .z (.n 30))] rfl (eN (lin [_,_] (.a (.m 3 .x) (.n 5)) (.a .y (.n 30)) [(.a .x (.n 1),.n 6),(.a .x (.n 1),.n 6),(.a .x (.n 1),.n 6)] rfl hd hd hd))) (lin [_,_,_] (.a .x (.n 30)) (.a (.a .y (.m 3 .z)) (.n 5)) [(.a .x (.n 30),.a .y (.a (.m 3 .z) (.n 5)))] rfl (dK _ _))] at this
 ·exact tv ⟨by unfold fP; rw [h2]; rfl,by unfold fL; rw [h2]; rfl⟩ (.inr h2)
 ·clear tv hnm; cases ok.prc h3 with
  | @mk num b fs ps hid zs e hb hps hl hz =>
  let tx:Nat→Str:=fun t=>Classical.epsilon fun s=>gD (Nm xs x) H 6 t s
  have htx:∀ z ∈ zs,gD (Nm xs x) H 6 z.t (tx z.t):=fun z hm=>Classical.epsilon_spec (both z.t (hz z hm).2.2)
  have hbt:∃ bt:Option Str,(∀ s,bt = some s→SL 177460 s)∧∀ n,(∀ p s0 sd H',Ext H H'→PN H' p s0 sd→(∀ k,8 ≤ k→fnd k sd = Nm xs x k)→qO (fun b H=>aC tbl (n + 21) .type_text [.ref p,.ref b] H) H' b bt)∧∀ l H',Ext H H'→LN H' l (Nm xs x)→qO (fun b H=>aC tbl (n + 21) .ltext [.ref l,.ref b] H) H' b bt:=by
   clear ok; rcases hb with ⟨f,p,h,eb⟩ | hb
   ·exact ⟨none,fun s q=>(nomatch q),fun n=>⟨fun p s0 sd H' e P q=>⟨_,_,_,_,_,_,_,_,_,_,e.get eb,.inl ⟨rfl,rfl⟩⟩,fun l H' e L=>⟨_,_,_,_,_,_,_,_,_,_,e.get eb,.inl ⟨rfl,rfl⟩⟩⟩⟩
   ·have gb:=GT.up (k:=6) (hb.gt (s:="INTEGER") (by decide) (by kernel_rfl) (aN (by kernel_rfl)))
    obtain ⟨s,hs⟩:=both b gb
    obtain ⟨f,p,h,eb⟩:=hb
    have ne:("integer":Str) ≠ "none":=by decide +kernel
    refine ⟨some s,fun s' q=>by cases q; exact lim hs,fun n=>⟨fun p s0 sd H' e P q=>⟨_,_,_,_,_,_,_,_,_,_,e.get eb,.inr ⟨ne,s,rfl,(lim hs).mono rfl,fun H2 e2=>hs.prg n H2 p s0 sd (e.trans e2) (P.ext e2) q⟩⟩,fun l H' e L=>⟨_,_,_,_,_,_,_,_,_,_,e.get eb,.inr ⟨ne,s,rfl,(lim hs).mono rfl,fun H2 e2=>hs.law n H2 l (e.trans e2) (L.ext e2)⟩⟩⟩⟩
  obtain ⟨bt,hbl,hbt⟩:=hbt
  have hlen:SL 900000 (oJ ((grp zs).map (bG tx)) bt):=by
   obtain ⟨q1,q2⟩:=yS (zs:=zs) (tx:=tx) (B:=177460) hl fun z hm=>⟨(hz z hm).2.1,lim (htx z hm)⟩
   have hj:SL (3 * (177481 + 2)) (Str.join "; " ((grp zs).map (bG tx))):=Nat.le_trans (kW (aN (m:=2) (by kernel_rfl)) q2) (Nat.mul_le_mul_right _ q1)
   have hj2:SL (2 + 3 * (177481 + 2) + 1) (" (" ++ Str.join "; " ((grp zs).map (bG tx)) ++ ")"):=aV (aV (aN (by kernel_rfl)) hj) (aN (by kernel_rfl))
   clear hj q2 q1 hb both ok; cases bt with
   | none =>
    cases hc:(grp zs).map (bG tx) with
    | nil=>exact aN (by kernel_rfl)
    | cons y r=>rw [hc] at hj2; exact hj2.mono rfl
   | some s =>
    have:=aV (aV hj2 (aN (s:=": ") (m:=2) (by kernel_rfl))) (hbl s rfl)
    clear hbl hj2; cases hc:(grp zs).map (bG tx) with
    | nil=>rw [hc] at this; exact SL.mono this rfl
    | cons y r=>rw [hc] at this; exact SL.mono this rfl
  refine ⟨_,hlen,fun w=>(by rw [h3] at w; cases w),fun _ n=>?_,fun _ n=>?_⟩
  ·rw [show fP x = .signature_text by unfold fP; rw [h3]; rfl]
   intro H' p s0 sd e' P q
   obtain ⟨al,sc,nr,ad,hp,_⟩:=P.ex
   exact kHa (n:=n + 27) hp (e'.get e) ((hbt (n + 8)).1 p s0 sd H' e' P q) (e'.get hps) hl fun z hm=>⟨(hz z hm).2.1,(hz z hm).1.ext e',(lim (htx z hm)).mono rfl,fun H2 e2=>(htx z hm).prg (n + 8) H2 p s0 sd (e'.trans e2) (P.ext e2) q⟩
  ·rw [show fL x = .lsignature by unfold fL; rw [h3]; rfl]
   intro H' l e' L
   exact uOa (n:=n + 28) (e'.get e) ((hbt (n + 8)).2 l H' e' L) (e'.get hps) hl fun z hm=>⟨(hz z hm).2.1,(hz z hm).1.ext e',(lim (htx z hm)).mono rfl,fun H2 e2=>(htx z hm).law (n + 7) H2 l (e'.trans e2) (L.ext e2)⟩
end
end Mine.C
end
section
namespace Mine.C
open PySem (Expr Stmt Str)
theorem qT:∀ a,a < 4→∀ b,b < 4→decide (kS a = kS b) = decide (a = b):=by decide +kernel
noncomputable def mid (x:Sh):Str:=if x.kd = 2 then ": " else " = "
noncomputable def fB (x:Sh):Str:=if x.kd = 3 then "  PROCEDURE " ++ x.name else "    " ++ x.name ++ mid x
noncomputable def pO (wf:Sh→Str) (x:Sh):Str:=fB x ++ wf x ++ ";"
noncomputable def aY (wf:Sh→Str) (kk:Nat) (l:List Sh):List Str:=(l.filter fun x=>decide (x.kd = kk)).map (pO wf)
section
variable {cf:aU} {env:Env} {H:Heap}
theorem rG {le he te:IE} {h w:Str} {r:Nat} {vs:List V} {Q:Fl × Env→Heap→Prop} (h3:PE cf env H le (.ref r)) (gr:H[r]? = some (.list vs)) (hl:vs.length ≤ 6) (hh:PE cf env H he (.str h)) (hs:SL 30 h) (hw:SL 900000 w) (ht:W (aH cf env te H) (Ret H (.str w)))
  (q:∀ H1 H',Ext H H1→bQ H1 r (.list (vs ++ [.str (h ++ w ++ ";")])) H'→Q (.next,env) H'):W (aJ cf (.cons (.expr (.bmeth .append le (.cons (.bin .Add (.bin .Add he te) (.const (.str ";"))) .nil))) .nil) env H) Q:=by
 refine iK (fO (E_p h3 ⟨lU (.inl rfl) gr,cF (bW (bW (E_p hh (ht.mono fun v H1 k=>?_))))⟩))
 obtain ⟨rfl,e⟩:=k
 exact cH hs hw rfl (E_p aB (cH (aV hs hw) (aN (m:=1) (by kernel_rfl)) rfl (aK (nY (e.get gr) (Nat.le_trans hl (aG rfl)) fun H' s=>aX (q H1 H' e s)))))
theorem NmS.offL {H':Heap} {p s0 al sc nr r:Nat} {ad sd:List (Str × V)} {vs:List V} {o:O} (S:NmS H p s0 al sc nr false ad sd) (s:bQ H r o H') (g:H[r]? = some (.list vs)) (hr:sc ≠ r):NmS H' p s0 al sc nr false ad sd :=
 ⟨s.get (fun w=>by have:=S.gob; rw [w,g] at this; cases this) S.gob,s.get (fun w=>by have:=S.gal; rw [w,g] at this; cases this) S.gal,s.get hr S.gsc,s.get (fun w=>by have:=S.gs0; rw [w,g] at this; cases this) S.gs0,S.ne,S.vals,S.len⟩
end
structure LO (xs:List Sh) (kk j:Nat) (L:List Sh):Prop where
 c:kk = 0→L = xs
 t:kk = 1→jM xs j L
 r:2 ≤ kk→L = S1 xs
section
variable {A:Ad} {imp:Bool} {xs:List Sh} {H0 Hs H:Heap} {n pn s0 al sc nr r j kk:Nat} {ad:List (Str × V)} {L:List Sh} {wf:Sh→Str} {x4 x5 x6:Option V}
noncomputable def orE (pn sh:Nat) (kk r:Nat) (x4 x5 x6:Option V):Env:=[some (.ref pn),some (.ref sh),some (.str (kS kk)),some (.ref r),x4,x5,x6,none,none,none,none]
structure OT (A:Ad) (xs:List Sh) (H0 Hs:Heap) (pn s0 al sc nr r:Nat) (ad:List (Str × V)) (wf:Sh→Str) (kk j:Nat) (L:List Sh) (H:Heap):Prop where
 e:Ext H0 H
 b:But s0 Hs H
 S:NmS H pn s0 al sc nr false ad (L.map ent)
 lo:LO xs kk j L
 g:H[r]? = some (.list ((aY wf kk (xs.take j)).map V.str))
theorem dMa:(aY wf kk (xs.take j)).length ≤ xs.length:=by
 unfold aY
 rw [List.length_map]
 exact Nat.le_trans (List.length_filter_le _ _) (by rw [List.length_take]; exact Nat.min_le_right _ _)
theorem yG (h:j < xs.length):aY wf kk (xs.take (j + 1)) = aY wf kk (xs.take j) ++ if xs[j].kd = kk then [pO wf xs[j]] else []:=by
 unfold aY
 rw [take_snoc h,List.map_append]
 by_cases e:xs[j].kd = kk
 ·rw [if_pos e,if_pos (decide_eq_true e)]; rfl
 ·rw [if_neg e,if_neg (by rw [decide_eq_false e]; exact fun q=>nomatch q)]; rfl
theorem kUa {l:List Sh} {s:Str} (h:∀ y ∈ l,y.name ≠ s):look s (l.map ent) = none:=by
 induction l with
 | nil=>rfl
 | cons y l ih=>exact (if_neg (h y (.head _))).trans (ih fun z hz=>h z (.tail _ hz))
theorem eZa (h:pC xs) {k:Int} (hk:8 ≤ k):fnd k ((S1 xs).map ent) = nmT xs k:=(yU _).trans (congrArg (Option.map Sh.name) (yD hk h).symm)
theorem OT.put {H1 H':Heap} {x:Sh} {L':List Sh} (hj:j < xs.length) (hx:xs[j] = x) (hk:x.kd = kk) (hr:H0[r]? = none∧sc ≠ r∧Hs[r]? = none) (e:Ext H0 H1) (b:But s0 Hs H1) (S:NmS H1 pn s0 al sc nr false ad (L'.map ent)) (lo:LO xs kk (j + 1) L') (g:H1[r]? = some (.list ((aY wf kk (xs.take j)).map V.str)))
  (s:bQ H1 r (.list ((aY wf kk (xs.take j)).map V.str ++ [.str (fB x ++ wf x ++ ";")])) H'):OT A xs H0 Hs pn s0 al sc nr r ad wf kk (j + 1) L' H' :=
 ⟨e.set s hr.1,b.set s hr.2.2,S.offL s g hr.2.1,lo,by rw [s.self,yG hj,hx,if_pos hk,List.map_append]; rfl⟩
end
end Mine.C
end
section
namespace Mine.C
open PySem (Expr Stmt Str)
noncomputable def qI (te:IE) (m:Str):ISs:=(.cons (.expr (.bmeth .append (.loc 3) (.cons (.bin .Add (.bin .Add (.bin .Add (.bin .Add (.const (.str ("    "))) (.attr (.loc 5) 12)) (.const (.str m))) te) (.const (.str (";")))) .nil))) .nil)
noncomputable def aQa:ISs:=qI (.call .typed_constant (.cons (.loc 0) (.cons (.attr (.loc 5) 14) (.cons (.attr (.loc 5) 18) .nil)))) " = "
noncomputable def aTa:ISs:=(.cons (.setl 6 (.call .declared_text (.cons (.loc 0) (.cons (.attr (.loc 1) 24) (.cons (.loc 4) .nil))))) (qI (.loc 6) " = "))
noncomputable def bBa:ISs:=qI (.call .type_text (.cons (.loc 0) (.cons (.attr (.loc 5) 14) .nil))) ": "
noncomputable def iTa:ISs:=(.cons (.expr (.bmeth .append (.loc 3) (.cons (.bin .Add (.bin .Add (.bin .Add (.const (.str ("  PROCEDURE "))) (.attr (.loc 5) 12)) (.call .signature_text (.cons (.loc 0) (.cons (.attr (.loc 5) 14) .nil)))) (.const (.str (";")))) .nil))) .nil)
noncomputable def vNa:ISs:=(.cons (.setl 5 (.sub (.attr (.loc 1) 24) (.loc 4)))
 (.cons (.ite (.val (.cmp .NotEq (.attr (.loc 5) 13) (.loc 2))) (.cons .cont .nil) .nil)
 (.cons (.ite (.val (.cmp .Eq (.loc 2) (.const (.str ("const"))))) aQa (.cons (.ite (.val (.cmp .Eq (.loc 2) (.const (.str ("type"))))) aTa (.cons (.ite (.val (.cmp .Eq (.loc 2) (.const (.str ("var"))))) bBa iTa) .nil)) .nil)) .nil)))
section
variable {A:Ad} {imp:Bool} {xs:List Sh} {H0 Hs H:Heap} {n pn s0 al sc nr r j kk:Nat} {ad:List (Str × V)} {L:List Sh} {wf:Sh→Str} {x4 x5 x6:Option V} {Q:Fl × Env→Heap→Prop}
theorem aEa (N:Fin A imp xs H) {x:Sh} (hx:x ∈ xs):SL 30 (fB x):=by
 unfold fB mid
 split
 ·exact SL.mono (aV (aN (m:=12) (by kernel_rfl)) (N.sl hx)) rfl
 ·split <;> exact SL.mono (aV (aV (aN (m:=4) (by kernel_rfl)) (N.sl hx)) (aN (m:=3) (by kernel_rfl))) rfl
theorem zB {cf:aU} {env:Env} {x:Sh} {d:Nat} (N:Fin A imp xs H0) (hx:x ∈ xs) (ok:gG H d x) (h5:(env[5]?).join = some (.ref x.o)) (h3:x.kd ≠ 3):PE cf env H (.bin .Add (.bin .Add (.const (.str ("    "))) (.attr (.loc 5) 12)) (.const (.str (mid x)))) (.str (fB x)):=by
 have s4:SL 4 ("    ":Str):=aN (by kernel_rfl)
 have sm:SL 3 (mid x):=by unfold mid; split <;> exact aN (by kernel_rfl)
 rw [show fB x = "    " ++ x.name ++ mid x from if_neg h3]
 exact bR (bR aB (aF (aA h5) ok.ob rfl) s4 (N.sl hx) rfl) aB (aV s4 (N.sl hx)) sm rfl
theorem wSa {x:Sh} (N:Fin A imp xs H0) (wk:∀ x ∈ xs,WOK xs H0 x (wf x)) (hx:x ∈ xs) (hat:x.at_ = j) (hk:x.kd = kk) (hs0:H0[s0]? = none) (hne:r ≠ s0) (T:OT A xs H0 Hs pn s0 al sc nr r ad wf kk j L H)
  (q:∀ H1 H' L' y6,Ext H0 H1→But s0 H H1→NmS H1 pn s0 al sc nr false ad (L'.map ent)→LO xs kk (j + 1) L'→H1[r]? = some (.list ((aY wf kk (xs.take j)).map V.str))→bQ H1 r (.list ((aY wf kk (xs.take j)).map V.str ++ [.str (fB x ++ wf x ++ ";")])) H'→Q (.next,orE pn A.sh kk r (some (.int j)) (some (.ref x.o)) y6) H') :
  W (aJ (aC tbl (n + 31)) (.cons (.ite (.val (.cmp .Eq (.loc 2) (.const (.str ("const"))))) aQa (.cons (.ite (.val (.cmp .Eq (.loc 2) (.const (.str ("type"))))) aTa (.cons (.ite (.val (.cmp .Eq (.loc 2) (.const (.str ("var"))))) bBa iTa) .nil)) .nil)) .nil) (orE pn A.sh kk r (some (.int j)) (some (.ref x.o)) x6) H) Q:=by
 have Nx:=N.ext T.e
 have ok:=Nx.ok x hx
 have w:=wk x hx
 have hl:((aY wf kk (xs.take j)).map V.str).length ≤ 6:=by rw [List.length_map]; exact Nat.le_trans dMa N.len
 have hh:=aEa N hx
 have hk4:kk < 4:=hk ▸ ok.kd
 have test:∀ {s:Str} {b:Bool},decide (kS kk = s) = b→PT (aC tbl (n + 31)) (orE pn A.sh kk r (some (.int j)) (some (.ref x.o)) x6) H (.val (.cmp .Eq (.loc 2) (.const (.str s)))) b:=fun h=>aO (aR (aA rfl) aB (congrArg some h))
 have c0:=test (s:="const") (kS0 hk4).1
 have c1:=test (s:="type") (rW hk4)
 have c2:PT (aC tbl (n + 31)) (orE pn A.sh kk r (some (.int j)) (some (.ref x.o)) x6) H (.val (.cmp .Eq (.loc 2) (.const (.str "var")))) (decide (kk = 2)):=test (qT kk hk4 2 (by decide))
 obtain ⟨al',sc',nr',ad',hpn,_⟩:=(T.S.pn (tX L)).ex
 have step:∀ {H1 H'},Ext H H1→(kk ≠ 1→LO xs kk (j + 1) L)→kk ≠ 1→bQ H1 r (.list ((aY wf kk (xs.take j)).map V.str ++ [.str (fB x ++ wf x ++ ";")])) H'→Q (.next,orE pn A.sh kk r (some (.int j)) (some (.ref x.o)) x6) H':=fun e lo h s=>q _ _ L _ (T.e.trans e) e.but (T.S.ext e) (lo h) (e.get T.g) s
 have lo:kk ≠ 1→LO xs kk (j + 1) L:=fun h=>⟨T.lo.c,fun w=>absurd w h,T.lo.r⟩
 have tcw:∀ f,fP x = f→kk ≠ 0→Ext H0 H→(∀ k,8 ≤ k→fnd k (L.map ent) = Nm xs x k)→W (aC tbl (n + 31) f [.ref pn,.ref x.t] H) (Ret H (.str (wf x))):=fun f hf h e hnm=>by
  have:=w.prg (hk ▸ h) (n + 1) H pn s0 _ e (T.S.pn (tX L)) hnm
  rwa [hf] at this
 rcases k4 kk hk4 with h | h | h | h
 ·have hk0:x.kd = 0:=hk.trans h
  have hL:=T.lo.c h
  have hlk:∀ s:Str,(∀ k,k < 4→∀ i,i < 6→bY k i ≠ s)→look s (L.map ent) = none:=fun s hs=>kUa fun y hy=>by
   rw [hL] at hy
   exact hs y.kd (N.ok y hy).kd y.at_ (Nat.lt_of_lt_of_le (N.lt hy) N.len)
  have no:=pQ
  rw [decide_eq_true h] at c0
  refine cJ c0 ?_
  have hm:(" = ":Str) = mid x:=by unfold mid; rw [if_neg (by rw [hk0]; exact fun q=>nomatch q)]
  unfold aQa qI
  rw [hm]
  refine rG (aA rfl) T.g hl (zB N hx ok rfl (by rw [hk0]; exact fun q=>nomatch q)) hh w.len (bO (aD (aA rfl) (aD (aF (aA rfl) ok.ob rfl) (aD (aF (aA rfl) ok.ob rfl) (aK ?_))))) fun H1 H' e s=>aZ (aX (step e lo (by rw [h]; exact fun q=>nomatch q) s))
  rw [w.con hk0]
  exact uAa (n:=n + 27) (T.S.pn (tX L)) (hlk _ fun k a i b=>(no k a i b).2.2.2.2.2.2.1) (hlk _ fun k a i b=>(no k a i b).2.2.2.2.1) (hlk _ fun k a i b=>(no k a i b).2.2.2.2.2.1) (ok.con hk0)
 ·have hk1:x.kd = 1:=hk.trans h
  rw [decide_eq_false (by rw [h]; exact fun q=>nomatch q)] at c0
  rw [decide_eq_true h] at c1
  refine bH c0 (cJ c1 ?_)
  have hm:(" = ":Str) = mid x:=by unfold mid; rw [if_neg (by rw [hk1]; exact fun q=>nomatch q)]
  unfold aTa qI
  rw [hm]
  have tc:TC (n + 29 + 1) H0 (nmT (xs.filter (keep x.at_))) (if x.al = true then .type_text else .structure_text) x.t (wf x):=by
   have:=w.prg (by rw [hk1]; exact fun q=>nomatch q) n
   rw [show Nm xs x = nmT (xs.filter (keep x.at_)) from if_pos hk1,show fP x = if x.al = true then .type_text else .structure_text by unfold fP; rw [hk1]; cases x.al <;> rfl] at this
   exact this
  have hde:=mUa (n:=n + 29) N hx hk1 (by rw [hat]; exact T.lo.t h) tc hs0 T.e T.S
  rw [hat] at hde
  have hsh:∃ im,H[A.sh]? = some (fU A.ob im):=by cases Nx.sh with | mk e _ _ _=>exact ⟨_,e⟩
  obtain ⟨im,hsh⟩:=hsh
  refine bC (bO (aD (aA rfl) (aD (aF (aA rfl) hsh rfl) (aD (aA rfl) (aK (hde.mono fun v H1 k=>?_))))))
  obtain ⟨rfl,e1,b1,S1'⟩:=k
  have g1:=b1 _ _ hne T.g
  exact rG (aA rfl) g1 hl (zB N hx ((N.ext e1).ok x hx) rfl (by rw [hk1]; exact fun q=>nomatch q)) hh w.len (E_p (aA rfl) ⟨rfl,Ext.refl _⟩) fun H2 H' e s=>aZ (aX (aZ (aX (q H2 H' (S1 xs) _ (e1.trans e) (b1.trans e.but) (S1'.ext e) ⟨fun w=>(by rw [h] at w; cases w),fun _=>.inl rfl,fun _=>rfl⟩ (e.get g1) s))))
 ·have hk2:x.kd = 2:=hk.trans h
  rw [decide_eq_false (by rw [h]; exact fun q=>nomatch q)] at c0 c1
  rw [decide_eq_true h] at c2
  refine bH c0 (bH c1 (cJ c2 ?_))
  have hm:(": ":Str) = mid x:=by unfold mid; rw [if_pos hk2]
  unfold bBa qI
  rw [hm]
  have hL:=T.lo.r (Nat.le_of_eq h.symm)
  refine rG (aA rfl) T.g hl (zB N hx ok rfl (by rw [hk2]; exact fun q=>nomatch q)) hh w.len (bO (aD (aA rfl) (aD (aF (aA rfl) ok.ob rfl) (aK (tcw .type_text (by unfold fP; rw [hk2]; rfl) (by rw [h]; exact fun q=>nomatch q) T.e ?_))))) fun H1 H' e s=>aZ (aX (aZ (aX (aZ (aX (step e lo (by rw [h]; exact fun q=>nomatch q) s))))))
  rw [show Nm xs x = nmT xs from if_neg (by rw [hk2]; exact fun q=>nomatch q),hL]
  exact fun k hk=>eZa N.pair hk
 ·have hk3:x.kd = 3:=hk.trans h
  rw [decide_eq_false (by rw [h]; exact fun q=>nomatch q)] at c0 c1 c2
  refine bH c0 (bH c1 (bH c2 ?_))
  have hL:=T.lo.r (by rw [h]; decide)
  have hhd:PE (aC tbl (n + 31)) (orE pn A.sh kk r (some (.int j)) (some (.ref x.o)) x6) H (.bin .Add (.const (.str ("  PROCEDURE "))) (.attr (.loc 5) 12)) (.str (fB x)):=by
   rw [show fB x = "  PROCEDURE " ++ x.name from if_pos hk3]
   exact bR aB (aF (aA rfl) ok.ob rfl) (aN (m:=12) (by kernel_rfl)) (N.sl hx) rfl
  refine rG (aA rfl) T.g hl hhd hh w.len (bO (aD (aA rfl) (aD (aF (aA rfl) ok.ob rfl) (aK (tcw .signature_text (by unfold fP; rw [hk3]; rfl) (by rw [h]; exact fun q=>nomatch q) T.e ?_))))) fun H1 H' e s=>aZ (aX (aZ (aX (aZ (aX (step e lo (by rw [h]; exact fun q=>nomatch q) s))))))
  rw [show Nm xs x = nmT xs from if_neg (by rw [hk3]; exact fun q=>nomatch q),hL]
  exact fun k hk=>eZa N.pair hk
end
end Mine.C
end
section
namespace Mine.C
open PySem (Expr Stmt Str)
inductive OTE (A:Ad) (xs:List Sh) (H0 Hs:Heap) (pn s0 al sc nr r:Nat) (ad:List (Str × V)) (wf:Sh→Str) (kk j:Nat) (env:Env) (H:Heap):Prop where
 | mk (L:List Sh) (x4 x5 x6:Option V):env = orE pn A.sh kk r x4 x5 x6→OT A xs H0 Hs pn s0 al sc nr r ad wf kk j L H→OTE A xs H0 Hs pn s0 al sc nr r ad wf kk j env H
inductive ORs (xs:List Sh) (H0 Hs:Heap) (pn s0 al sc nr:Nat) (ad:List (Str × V)) (wf:Sh→Str) (kk:Nat) (v:V) (H:Heap):Prop where
 | mk (r:Nat) (L:List Sh):v = .ref r→Ext H0 H→But s0 Hs H→NmS H pn s0 al sc nr false ad (L.map ent)→(kk = 0→L = xs)→(1 ≤ kk→L = S1 xs)→H[r]? = some (.list ((aY wf kk xs).map V.str))→Hs[r]? = none→ORs xs H0 Hs pn s0 al sc nr ad wf kk v H
section
variable {A:Ad} {imp:Bool} {xs:List Sh} {H0 H:Heap} {n pn s0 al sc nr j kk:Nat} {ad:List (Str × V)} {L:List Sh} {wf:Sh→Str}
theorem nKa {Hs:Heap} {r:Nat} {x5 x6:Option V} {L:List Sh} {Q:Fl × Env→Heap→Prop} (N:Fin A imp xs H0) (wk:∀ x ∈ xs,WOK xs H0 x (wf x)) (hk4:kk < 4) (hj:j < xs.length) (hs0:H0[s0]? = none) (hne:r ≠ s0) (hr:H0[r]? = none∧sc ≠ r∧Hs[r]? = none) (T:OT A xs H0 Hs pn s0 al sc nr r ad wf kk j L H) :
  W (aJ (aC tbl (n + 31)) vNa (orE pn A.sh kk r (some (.int j)) x5 x6) H) fun x H1=>match x.1 with | .ret _=>Q x H1 | _=>OTE A xs H0 Hs pn s0 al sc nr r ad wf kk (j + 1) x.2 H1:=by
 have hx:xs[j] ∈ xs:=List.getElem_mem hj
 have hat:=N.at_ hj
 have Nx:=N.ext T.e
 have ok:=Nx.ok _ hx
 have hsh:∃ im,H[A.sh]? = some (fU A.ob im):=by cases Nx.sh with | mk e _ _ _=>exact ⟨_,e⟩
 obtain ⟨im,hsh⟩:=hsh
 refine gA (cQ (aF (aA rfl) hsh rfl) (aA rfl) Nx.ob (by rw [lM (by rw [List.length_map]; exact hj),List.getElem_map])) ?_
 have htest:PT (aC tbl (n + 31)) (orE pn A.sh kk r (some (.int j)) (some (.ref xs[j].o)) x6) H (.val (.cmp .NotEq (.attr (.loc 5) 13) (.loc 2))) (!decide (xs[j].kd = kk)) :=
  aO (aR (aF (aA rfl) ok.ob rfl) (aA rfl) (congrArg (fun b=>some (!b)) (qT _ ok.kd kk hk4)))
 clear hsh Nx hk4; by_cases hk:xs[j].kd = kk
 ·rw [decide_eq_true hk] at htest
  refine bH htest (bF (wSa N wk hx hat hk hs0 hne T fun H1 H' L' y6 e b S lo g s=>?_))
  exact .mk L' _ _ _ rfl (OT.put (x:=xs[j]) hj rfl hk hr e (T.b.trans b) S lo g s)
 ·rw [decide_eq_false hk] at htest
  refine cJ htest (tB ?_)
  refine .mk L _ _ _ rfl ⟨T.e,T.b,T.S,?_,?_⟩
  ·refine ⟨T.lo.c,fun w=>(T.lo.t w).imp_right fun ⟨a,b⟩=>⟨a,fun y hy q=>?_⟩,T.lo.r⟩
   clear htest hat hx hr hne hs0 wk; by_cases e:y.at_ = j
   ·obtain ⟨i,hi,rfl⟩:=List.getElem_of_mem hy
    have:=N.at_ hi
    have:i = j:=this.symm.trans e
    clear N; subst this
    exact ok.al (fun h=>hk (h.trans w.symm))
   ·exact b y hy (by exact Nat.lt_of_le_of_ne (lin [_,_] .x .y [(.a .x (.n 1),.a .y (.n 1))] rfl q) e)
  ·rw [yG hj,if_neg hk,List.append_nil]; exact T.g
theorem oNa (N:Fin A imp xs H0) (wk:∀ x ∈ xs,WOK xs H0 x (wf x)) (hk4:kk < 4) (e:Ext H0 H) (S:NmS H pn s0 al sc nr false ad (L.map ent)) (lo:LO xs kk 0 L) (hs0:H0[s0]? = none):W (aC tbl (n + 32) .object_rows [.ref pn,.ref A.sh,.str (kS kk)] H) (ORs xs H0 H pn s0 al sc nr ad wf kk):=by
 refine bK (env:=[some (.ref pn),some (.ref A.sh),some (.str (kS kk)),none,none,none,none,none,none,none,none]) rfl ?_
 refine bC (bU (aK (bJ (aG rfl) fun r H1 x1 g1 m1=>?_)))
 have N1:=N.ext (e.trans x1)
 have hsh:∃ im,H1[A.sh]? = some (fU A.ob im):=by cases N1.sh with | mk e _ _ _=>exact ⟨_,e⟩
 obtain ⟨im,hsh⟩:=hsh
 have hne:r ≠ s0:=(bV S.gs0 m1).symm
 have hr:H0[r]? = none∧sc ≠ r∧H[r]? = none:=⟨e.none m1,bV S.gsc m1,m1⟩
 have T1:OT A xs H0 H pn s0 al sc nr r ad wf kk 0 L H1:=⟨e.trans x1,x1.but,S.ext x1,lo,g1⟩
 refine cY (oV (E_p (gM (aF (aA rfl) hsh rfl) N1.ob) ⟨xs.length,by rw [List.length_map],by have:=N.len; exact lin [_] .x (.n 1000) [(.x,.n 6)] rfl this,?_⟩))
 refine pG (OTE A xs H0 H pn s0 al sc nr r ad wf kk) (fun j env H2 hj k=>?_) (fun env H2 k=>?_) (.mk L none none none rfl T1)
 ·clear T1 hsh N1 g1 x1; cases k with
  | mk L' x4 x5 x6 he T =>
  subst he
  exact dM (env1:=orE pn A.sh kk r (some (.int j)) x5 x6) rfl (nKa N wk hk4 hj hs0 hne hr T)
 ·clear T1 hr hne hsh N1 g1 x1 hs0 hk4 wk; cases k with
  | mk L' x4 x5 x6 he T =>
  subst he
  have g:=T.g
  rw [List.take_length] at g
  refine aZ (cC (aA rfl) (.mk r L' rfl T.e T.b T.S T.lo.c (fun w=>?_) g m1))
  clear g m1 S e; rcases Nat.lt_or_ge 1 kk with h | h
  ·exact T.lo.r h
  ·rcases T.lo.t (by exact Nat.le_antisymm (lin [_] .x (.n 1) [(.x,.n 1)] rfl h) (lin [_] (.n 1) .x [(.n 1,.x)] rfl w)) with h | ⟨h,h2⟩
   ·exact h
   ·rw [h]
    unfold S1
    have f1:xs.filter (fun x=>!x.al) = xs:=List.filter_eq_self.mpr fun y hy=>by rw [h2 y hy (N.lt hy)]; rfl
    have f2:xs.filter (fun x=>x.al) = []:=List.filter_eq_nil_iff.mpr fun y hy=>by rw [h2 y hy (N.lt hy)]; exact fun q=>nomatch q
    rw [f1,f2,List.append_nil]
end
end Mine.C
end
section
namespace Mine.C
open PySem (Expr Stmt Str)
noncomputable def sec (w:Str) (rs:List Str):List Str:=if rs.isEmpty = true then [] else w :: rs
noncomputable def endL:List Str:=["END M."]
noncomputable def zE (imp:Bool):List Str:=if imp = true then ["  IMPORT N;"] else []
noncomputable def hdR (imp:Bool):List Str:=[("DEFINITION M;":Str)] ++ zE imp
noncomputable def jK (imp:Bool) (R:Nat→List Str):List Str:=(((hdR imp ++ sec "  CONST" (R 0)) ++ sec "  TYPE" (R 1)) ++ sec "  VAR" (R 2)) ++ R 3
noncomputable def wX (imp:Bool) (R:Nat→List Str):Str:=Str.join "\n" (jK imp R ++ endL) ++ "\n"
theorem section_ {H:Heap} {n r:Nat} {w:Str} {rs:List Str} (g:H[r]? = some (.list (rs.map V.str))) (hl:rs.length ≤ 900) {Q:V→Heap→Prop} (q:∀ b H',Ext H H'→H'[b]? = some (.list ((sec w rs).map V.str))→Q (.ref b) H'):W (aC tbl (n + 1) .section_ [.str w,.ref r] H) Q:=by
 refine bK (env:=[some (.str w),some (.ref r),none,none,none,none]) rfl ?_
 have ht:PT (aC tbl n) [some (.str w),some (.ref r),none,none,none,none] H (.val (.cmp .Gt (.blt .len (.cons (.loc 1) .nil)) (.const (.int (0))))) (decide ((0:Int) < (rs.map V.str).length)):=aO (aR (gM (aA rfl) g) aB rfl)
 cases rs with
 | nil=>exact cM (mZ ht (bU (aK (bJ (aG rfl) fun b H1 x1 g1 m1=>q b H1 x1 g1))))
 | cons y ys =>
  rw [decide_eq_true (by rw [List.length_map,List.length_cons]; exact dD (lin [_] (.a (.n 0) (.n 1)) (.a .x (.n 1)) [] rfl))] at ht
  refine cM (mL ht (bW (bU (aD (aA rfl) (aK (bJ (aG rfl) fun b H1 x1 g1 m1=>E_p (aA rfl) (sX g1 (x1.get g) ?_ fun c H2 x2 g2 m2=>q c H2 (x1.trans x2) g2)))))))
  rw [List.length_append,List.length_map]
  show 1 + _ ≤ 1000
  exact lin [_] (.a (.n 1) .x) (.n 1000) [(.x,.n 900)] rfl hl
theorem hLa:∀ l:List Sh,(l.filter fun x=>decide (x.kd = 0)).length + (l.filter fun x=>decide (x.kd = 1)).length + (l.filter fun x=>decide (x.kd = 2)).length + (l.filter fun x=>decide (x.kd = 3)).length ≤ l.length
 | []=>Nat.le_refl _
 | x :: l=>by
  have ih:=hLa l
  have one:∀ k,(((x :: l).filter fun x=>decide (x.kd = k)).length = (l.filter fun x=>decide (x.kd = k)).length + if x.kd = k then 1 else 0):=fun k=>by
   rw [List.filter_cons]
   by_cases h:x.kd = k
   ·rw [if_pos (decide_eq_true h),if_pos h]; rfl
   ·rw [if_neg (by rw [decide_eq_false h]; exact fun q=>nomatch q),if_neg h]; rfl
  rw [one 0,one 1,one 2,one 3,List.length_cons]
  have key:(if x.kd = 0 then 1 else 0) + ((if x.kd = 1 then 1 else 0) + ((if x.kd = 2 then 1 else 0) + (if x.kd = 3 then 1 else 0))) ≤ 1:=by
   generalize x.kd = n
   match n with
   | 0 | 1 | 2 | 3=>decide
   | n + 4=>simp
  exact lin [_,_,_,_,_,_,_,_,_] (.a (.a (.a (.a .x .y) (.a .z .w)) (.a (.v 4) (.v 5))) (.a (.v 6) (.v 7))) (.a (.v 8) (.n 1)) [(.a (.a (.a .x .z) (.v 4)) (.v 6),.v 8),(.a .y (.a .w (.a (.v 5) (.v 7))),.n 1)] rfl ih key
noncomputable def tot (l:List Str):Nat:=(l.map (·.length)).sum
theorem jEa (a b:List Str):tot (a ++ b) = tot a + tot b:=by unfold tot; rw [List.map_append,List.sum_append]
theorem lO (w:Str) (rs:List Str):(sec w rs).length ≤ rs.length + 1∧tot (sec w rs) ≤ tot rs + w.length:=by
 unfold sec
 split
 ·exact ⟨Nat.zero_le _,Nat.zero_le _⟩
 ·exact ⟨Nat.le_refl _,by unfold tot; rw [List.map_cons,List.sum_cons]; exact lin [_,_] (.a .x .y) (.a .y .x) [] rfl⟩
section
variable {A:Ad} {imp:Bool} {xs:List Sh} {H:Heap} {wf:Sh→Str}
theorem uB (N:Fin A imp xs H) (wk:∀ x ∈ xs,WOK xs H x (wf x)) (kk:Nat):tot (aY wf kk xs) ≤ (xs.filter fun x=>decide (x.kd = kk)).length * 900031:=by
 have:=vJ (ys:=aY wf kk xs) (m:=900031) fun y hy=>by
  obtain ⟨x,hx,rfl⟩:=List.mem_map.mp hy
  have hx:=(List.mem_filter.mp hx).1
  exact SL.mono (aV (aV (aEa N hx) (wk x hx).len) (aN (m:=1) (by kernel_rfl))) rfl
 rwa [show (aY wf kk xs).length = _ from List.length_map ..] at this
theorem fPa (N:Fin A imp xs H) (wk:∀ x ∈ xs,WOK xs H x (wf x)):(jK imp (fun k=>aY wf k xs)).length ≤ 11∧tot (jK imp (fun k=>aY wf k xs) ++ endL) + 12 ≤ 6000000:=by
 have h6:=N.len
 have hc:=hLa xs
 have l:∀ k,(aY wf k xs).length = (xs.filter fun x=>decide (x.kd = k)).length:=fun k=>List.length_map ..
 have t0:=uB N wk 0
 have t1:=uB N wk 1
 have t2:=uB N wk 2
 have t3:=uB N wk 3
 have s0:=lO "  CONST" (aY wf 0 xs)
 have s1:=lO "  TYPE" (aY wf 1 xs)
 have s2:=lO "  VAR" (aY wf 2 xs)
 rw [show Str.length ("  CONST":Str) = 7 by kernel_rfl] at s0
 rw [show Str.length ("  TYPE":Str) = 6 by kernel_rfl] at s1
 rw [show Str.length ("  VAR":Str) = 5 by kernel_rfl] at s2
 rw [l] at s0 s1 s2
 have i:(hdR imp).length ≤ 2∧tot (hdR imp) ≤ 24:=by cases imp <;> exact ⟨Nat.le_of_ble_eq_true (by kernel_rfl),Nat.le_of_ble_eq_true (by kernel_rfl)⟩
 have en:tot endL = 6:=by kernel_rfl
 unfold jK
 simp only [jEa,List.length_append,l,en]
 have hm:=Nat.mul_le_mul_right 900031 (Nat.le_trans hc h6)
 constructor
 ·exact lin [_,_,_,_,_,_,_,_,_] (.a (.a (.a (.a .x .y) .z) .w) (.v 4)) (.n 11) [(.x,.n 2),(.y,.a (.v 5) (.n 1)),(.z,.a (.v 6) (.n 1)),(.w,.a (.v 7) (.n 1)),(.a (.a (.a (.v 5) (.v 6)) (.v 7)) (.v 4),.v 8),(.v 8,.n 6)] rfl i.1 s0.1 s1.1 s2.1 hc h6
 ·exact lin [_,_,_,_,_,_,_,_,_,_,_,_] (.a (.a (.a (.a (.a (.a .x .y) .z) .w) (.v 4)) (.n 6)) (.n 12)) (.n 6000000) [(.x,.n 24),(.y,.a (.v 5) (.n 7)),(.z,.a (.v 6) (.n 6)),(.w,.a (.v 7) (.n 5)),(.v 4,.q (.v 8) 900031),(.v 5,.q (.v 9) 900031),(.v 6,.q (.v 10) 900031),(.v 7,.q (.v 11) 900031),(.q (.a (.a (.a (.v 9) (.v 10)) (.v 11)) (.v 8)) 900031,.n 5400186)] rfl i.2 s0.2 s1.2 s2.2 t3 t0 t1 t2 hm
end
end Mine.C
end
section
namespace Mine.C
open PySem (Expr Stmt Str)
theorem fBa (sep:Str):∀ ys:List Str,(Str.join sep ys).length ≤ tot ys + ys.length * sep.length
 | []=>Nat.zero_le _
 | [y]=>by
  show y.length ≤ (y.length + 0) + 1 * sep.length
  exact lin [_,_] .x (.a (.a .x (.n 0)) (.m 1 .y)) [] rfl
 | y :: z :: r=>by
  have h:=fBa sep (z :: r)
  show Str.length (y ++ sep ++ Str.join sep (z :: r)) ≤ (y.length + tot (z :: r)) + ((z :: r).length + 1) * sep.length
  rw [Str.length_append,Str.length_append,Nat.succ_mul]
  exact lin [_,_,_,_,_] (.a (.a .x .y) .z) (.a (.a .x .w) (.a (.v 4) .y)) [(.z,.a .w (.v 4))] rfl h
section
variable {A:Ad} {imp:Bool} {xs:List Sh} {H Hc:Heap} {n p s0 al sc nr rl kk:Nat} {ad:List (Str × V)} {L:List Sh} {wf:Sh→Str} {env:Env} {rows:List Str}
theorem vY (N:Fin A imp xs H):(aY wf kk xs).length ≤ 6:=by
 unfold aY
 rw [List.length_map]
 exact Nat.le_trans (List.length_filter_le _ _) N.len
theorem cFa {w:Str} (h0:(env[0]?).join = some (.ref A.sh)) (h1:(env[1]?).join = some (.ref p)) (N:Fin A imp xs H) (wk:∀ x ∈ xs,WOK xs H x (wf x)) (hk:kk < 4) (e:Ext H Hc) (S:NmS Hc p s0 al sc nr false ad (L.map ent)) (lo:LO xs kk 0 L) (hs0:H[s0]? = none) {Q:V→Heap→Prop}
  (q:∀ b H' L',Ext H H'→But s0 Hc H'→NmS H' p s0 al sc nr false ad (L'.map ent)→(kk = 0→L' = xs)→(1 ≤ kk→L' = S1 xs)→H'[b]? = some (.list ((aY wf kk xs).map V.str))→Q (.ref b) H') :
  W (aH (aC tbl (n + 32)) env (.call .object_rows (.cons (.loc 1) (.cons (.loc 0) (.cons (.const (.str (kS kk))) .nil)))) Hc) Q:=by
 refine bO (aD (aA h1) (aD (aA h0) (aD aB (aK ((oNa N wk hk e S lo hs0).mono fun v H1 k=>?_)))))
 cases k with
 | mk r L' hv e1 b1 S1 c1 c2 g1 _=>subst hv; exact q r H1 L' e1 b1 S1 c1 c2 g1
theorem aFa {b:Nat} {rs:List Str} {H1:Heap} (g:H1[rl]? = some (.list (rows.map V.str))) (g1:H1[b]? = some (.list (rs.map V.str))) (hl:rows.length ≤ 20) (hr:rs.length ≤ 20) {Q:V→Heap→Prop} (q:∀ c H',Ext H1 H'→H'[c]? = some (.list ((rows ++ rs).map V.str))→Q (.ref c) H'):W (iH .Add (.ref rl) (.ref b) H1) Q:=by
 refine sX g g1 ?_ fun c H2 x2 g2 m2=>q c H2 x2 (by rw [g2,List.map_append])
 rw [List.length_append,List.length_map,List.length_map]
 exact lin [_,_] (.a .x .y) (.n 1000) [(.x,.n 20),(.y,.n 20)] rfl hl hr
theorem xX {w:Str} (h0:(env[0]?).join = some (.ref A.sh)) (h1:(env[1]?).join = some (.ref p)) (h2:(env[2]?).join = some (.ref rl)) (N:Fin A imp xs H) (wk:∀ x ∈ xs,WOK xs H x (wf x)) (hk:kk < 4) (e:Ext H Hc) (S:NmS Hc p s0 al sc nr false ad (L.map ent)) (lo:LO xs kk 0 L) (hs0:H[s0]? = none) (g:Hc[rl]? = some (.list (rows.map V.str))) (hl:rows.length ≤ 20) {Q:V→Heap→Prop}
  (q:∀ b H' L',Ext H H'→NmS H' p s0 al sc nr false ad (L'.map ent)→(kk = 0→L' = xs)→(1 ≤ kk→L' = S1 xs)→H'[b]? = some (.list ((rows ++ sec w (aY wf kk xs)).map V.str))→Q (.ref b) H') :
  W (aH (aC tbl (n + 32)) env (.bin .Add (.loc 2) (.call .section_ (.cons (.const (.str w)) (.cons (.call .object_rows (.cons (.loc 1) (.cons (.loc 0) (.cons (.const (.str (kS kk))) .nil)))) .nil)))) Hc) Q:=by
 have hne:rl ≠ s0:=fun w=>by have:=S.gs0; rw [← w,g] at this; first | exact nos this | exact nof this | cases this
 refine bW (E_p (aA h2) (bO (aD aB (cF (cFa (w:=w) h0 h1 N wk hk e S lo hs0 fun r H1 L' e1 b1 S1' c1 c2 g1=>aK ?_)))))
 have h6:(aY wf kk xs).length ≤ 6:=vY N
 refine section_ g1 (Nat.le_trans h6 (aG rfl)) fun b H2 e2 g2=>aFa (e2.get (b1 _ _ hne g)) g2 hl (Nat.le_trans (lO _ _).1 (by exact lin [_] (.a .x (.n 1)) (.n 20) [(.x,.n 6)] rfl h6)) fun c H3 e3 g3=>?_
 exact q c H3 L' (e1.trans (e2.trans e3)) (S1'.ext (e2.trans e3)) c1 c2 g3
noncomputable def dtE (sh p rl:Nat):Env:=[some (.ref sh),some (.ref p),some (.ref rl),none,none,none,none]
noncomputable def tTa:ISs:=(.cons (.setl 2 (.bin .Add (.loc 2) (.call .section_ (.cons (.const (.str ("  CONST"))) (.cons (.call .object_rows (.cons (.loc 1) (.cons (.loc 0) (.cons (.const (.str ("const"))) .nil)))) .nil)))))
 (.cons (.setl 2 (.bin .Add (.loc 2) (.call .section_ (.cons (.const (.str ("  TYPE"))) (.cons (.call .object_rows (.cons (.loc 1) (.cons (.loc 0) (.cons (.const (.str ("type"))) .nil)))) .nil)))))
 (.cons (.setl 2 (.bin .Add (.loc 2) (.call .section_ (.cons (.const (.str ("  VAR"))) (.cons (.call .object_rows (.cons (.loc 1) (.cons (.loc 0) (.cons (.const (.str ("var"))) .nil)))) .nil)))))
 (.cons (.setl 2 (.bin .Add (.loc 2) (.call .object_rows (.cons (.loc 1) (.cons (.loc 0) (.cons (.const (.str ("proc"))) .nil))))))
 (.cons (.ret (.bin .Add (.bmeth .join (.const (.str ("\n"))) (.cons (.bin .Add (.loc 2) (.list (.cons (.bin .Add (.bin .Add (.const (.str ("END "))) (.attr (.loc 0) 12)) (.const (.str (".")))) .nil))) .nil)) (.const (.str ("\n")))))
 .nil)))))
theorem fUa {cf:aU} {le ee:IE} (N:Fin A imp xs H) (wk:∀ x ∈ xs,WOK xs H x (wf x)) (hl:PE cf env Hc le (.ref rl)) (g:Hc[rl]? = some (.list ((jK imp fun k=>aY wf k xs).map V.str))) (he:PE cf env Hc ee (.str "END M.")) {Q:V→Heap→Prop} (q:∀ H',Ext Hc H'→Q (.str (wX imp fun k=>aY wf k xs)) H') :
  W (aH cf env (.bin .Add (.bmeth .join (.const (.str ("\n"))) (.cons (.bin .Add le (.list (.cons ee .nil))) .nil)) (.const (.str ("\n")))) Hc) Q:=by
 obtain ⟨r1,r2⟩:=fPa (imp:=imp) N wk
 refine bW (fO (E_p aB ⟨rfl,cF (bW (E_p hl (bU (aD he (aK (bJ (aG rfl) fun b H1 x1 g1 m1=>?_))))))⟩))
 refine aFa (rs:=endL) (x1.get g) g1 (Nat.le_trans r1 (aG rfl)) (aG rfl) fun c H2 x2 g2=>aK (mK (ys:=(jK imp fun k=>aY wf k xs) ++ endL) g2 ?_ (E_p aB ?_))
 ·have hn:Str.length ("\n":Str) = 1:=by kernel_rfl
  rw [hn,List.length_append]
  show tot _ + (_ + 1) * 1 ≤ lim
  unfold lim
  exact lin [_,_] (.a .x (.q (.a .y (.n 1)) 1)) (.n 16777216) [(.a .x (.n 12),.n 6000000),(.y,.n 11)] rfl r2 r1
 ·have hj:SL 7000000 (Str.join "\n" ((jK imp fun k=>aY wf k xs) ++ endL)):=by
   have h:=fBa "\n" ((jK imp fun k=>aY wf k xs) ++ endL)
   rw [show Str.length ("\n":Str) = 1 by kernel_rfl,List.length_append] at h
   refine Nat.le_trans h ?_
   show tot _ + (_ + 1) * 1 ≤ 7000000
   exact lin [_,_] (.a .x (.q (.a .y (.n 1)) 1)) (.n 7000000) [(.a .x (.n 12),.n 6000000),(.y,.n 11)] rfl r2 r1
  exact cH hj (aN (m:=1) (by kernel_rfl)) rfl (q H2 (x1.trans x2))
theorem sGa (N:Fin A imp xs H) (wk:∀ x ∈ xs,WOK xs H x (wf x)):W (aC tbl (n + 33) .definition_text [.ref A.sh] H) (Ret H (.str (wX imp fun k=>aY wf k xs))):=by
 have im:=N.sh
 have hsh:∃ im,H[A.sh]? = some (fU A.ob im):=by cases im with | mk e _ _ _=>exact ⟨_,e⟩
 obtain ⟨ia,hsh⟩:=hsh
 refine bK (env:=[some (.ref A.sh),none,none,none,none,none,none]) rfl ?_
 refine bC (bO (aD (aA rfl) (aK (wAa (n:=n + 29) N fun H1 p s0 al sc nr ad e1 n1 S1'=>?_))))
 have sM:SL 1 ("M":Str):=aN (by kernel_rfl)
 have s11:SL 11 ("DEFINITION ":Str):=aN (by kernel_rfl)
 refine bC (bU (aD (bR (bR aB (aF (aA rfl) (e1.get hsh) rfl) s11 sM rfl) aB (aV s11 sM) (aN (m:=1) (by kernel_rfl)) rfl) (aK (bJ (aG rfl) fun rl H2 x2 g2 m2=>?_))))
 have rest:∀ H3,Ext H H3→NmS H3 p s0 al sc nr false ad (xs.map ent)→H3[rl]? = some (.list ((hdR imp).map V.str))→W (aJ (aC tbl (n + 32)) tTa (dtE A.sh p rl) H3) (Out (Ret H (.str (wX imp fun k=>aY wf k xs)))):=fun H3 e3 S3 g3=>by
  have h0:(hdR imp).length ≤ 2:=by cases imp <;> exact Nat.le_of_ble_eq_true (by kernel_rfl)
  have h6:∀ k,(aY wf k xs).length ≤ 6:=fun k=>vY N
  have l1:(hdR imp ++ sec "  CONST" (aY wf 0 xs)).length ≤ 9:=by rw [List.length_append]; have t1:=(lO "  CONST" (aY wf 0 xs)).1; have t2:=h6 0; exact lin [_,_,_] (.a .x .y) (.n 9) [(.x,.n 2),(.y,.a .z (.n 1)),(.z,.n 6)] rfl h0 t1 t2
  have l2:((hdR imp ++ sec "  CONST" (aY wf 0 xs)) ++ sec "  TYPE" (aY wf 1 xs)).length ≤ 16:=by rw [List.length_append]; have t1:=(lO "  TYPE" (aY wf 1 xs)).1; have t2:=h6 1; exact lin [_,_,_] (.a .x .y) (.n 16) [(.x,.n 9),(.y,.a .z (.n 1)),(.z,.n 6)] rfl l1 t1 t2
  refine bC (xX (kk:=0) rfl rfl rfl N wk (by decide) e3 S3 ⟨fun _=>rfl,fun w=>(nomatch w),fun w=>absurd w (by decide)⟩ n1 g3 (Nat.le_trans h0 (aG rfl)) fun b4 H4 L4 e4 S4 c4 _ g4=>?_)
  rw [c4 rfl] at S4
  refine bC (xX (kk:=1) rfl rfl rfl N wk (by decide) e4 S4 ⟨fun w=>(nomatch w),fun _=>.inr ⟨rfl,fun y _ w=>absurd w (Nat.not_lt_zero _)⟩,fun w=>absurd w (by decide)⟩ n1 g4 (Nat.le_trans l1 (aG rfl)) fun b5 H5 L5 e5 S5 _ c5 g5=>?_)
  rw [c5 (Nat.le_refl 1)] at S5
  refine bC (xX (kk:=2) rfl rfl rfl N wk (by decide) e5 S5 ⟨fun w=>(nomatch w),fun w=>(nomatch w),fun _=>rfl⟩ n1 g5 (Nat.le_trans l2 (aG rfl)) fun b6 H6 L6 e6 S6 _ c6 g6=>?_)
  rw [c6 (by decide)] at S6
  have hne:b6 ≠ s0:=fun w=>by have:=S6.gs0; rw [← w,g6] at this; first | exact nos this | exact nof this | cases this
  have l3:=Nat.le_trans (lO "  VAR" (aY wf 2 xs)).1 (Nat.succ_le_succ (h6 2))
  have l23:(((hdR imp ++ sec "  CONST" (aY wf 0 xs)) ++ sec "  TYPE" (aY wf 1 xs)) ++ sec "  VAR" (aY wf 2 xs)).length ≤ 11 + 0:=by
   have:=(fPa (imp:=imp) N wk).1
   unfold jK at this
   rw [List.length_append] at this
   exact Nat.le_trans (Nat.le_add_right _ _) this
  refine bC (bW (E_p (aA rfl) (cFa (w:="") (kk:=3) rfl rfl N wk (by decide) e6 S6 ⟨fun w=>(nomatch w),fun w=>(nomatch w),fun _=>rfl⟩ n1 fun r H7 L7 e7 b7 S7 _ _ g7=>aFa (b7 _ _ hne g6) g7 (Nat.le_trans l23 (aG rfl)) (Nat.le_trans (h6 3) (aG rfl)) fun b8 H8 x8 g8=>?_)))
  have e8:=e7.trans x8
  have s4:SL 4 ("END ":Str):=aN (by kernel_rfl)
  exact cM (fUa N wk (aA rfl) g8 (bR (bR aB (aF (aA rfl) (e8.get hsh) rfl) s4 sM rfl) aB (aV s4 sM) (aN (m:=1) (by kernel_rfl)) rfl) fun H9 x9=>⟨rfl,e8.trans x9⟩)
 have e2:=e1.trans x2
 have S2:=S1'.ext x2
 cases im with
 | @mk ts i1 i2 i3 i4 =>
 have i1':=e2.get i1
 have ht:PT (aC tbl (n + 32)) (dtE A.sh p rl) H2 (.val (.cmp .Gt (.blt .len (.cons (.attr (.loc 0) 25) .nil)) (.const (.int (0))))) (decide ((0:Int) < (ts.map V.ref).length)):=aO (aR (gM (aF (aA rfl) i1' rfl) (e2.get i2)) aB rfl)
 rw [List.length_map,i3] at ht
 cases imp with
 | false=>exact bH ht (bF (rest H2 e2 S2 g2))
 | true =>
  have s9:SL 9 ("  IMPORT ":Str):=aN (by kernel_rfl)
  have hj:SL 1 (Str.join ", " (mV true)):=aN (by kernel_rfl)
  refine cJ ht (iK (fO (E_p (aA rfl) ⟨lU (.inl rfl) g2,cF (bW (bW (E_p aB (fO (E_p aB ⟨rfl,cF (gQa rfl (fun _=>rfl) ((N.ext e2).sh) fun b H3 x3 g3=>aK (mK g3 (Nat.le_of_ble_eq_true (by kernel_rfl)) (cH s9 hj rfl (E_p aB (cH (aV s9 hj) (aN (m:=1) (by kernel_rfl)) rfl (aK ?_))))))⟩)))))⟩)))
  refine nY (x3.get g2) (aG rfl) fun H4 s4=>aX (aZ (rest H4 ((e2.trans x3).set s4 (e1.none m2)) ((S2.ext x3).offL s4 (x3.get g2) (bV S1'.gsc m2)) ?_))
  exact s4.self
end
end Mine.C
end
section
namespace Mine.C
open PySem (Expr Stmt Str)
noncomputable def lvE (A:Ad) (x10 x11 x12 x13 x14 x15 x16 x17 x18 x19 x20 x21:Option V):Env:=[none,some (.ref A.c),some (.ref A.h),some (.ref A.T),some (.ref A.ot),some (.ref A.pl),some (.ref A.sh),some (.ref A.vd),some (.ref A.al),some (.ref A.oc),x10,x11,x12,x13,x14,x15,x16,x17,x18,x19,x20,x21,none,none,none,none]
noncomputable def xG:ISs:=(.cons (.expr (.bmeth .append (.loc 18) (.cons (.bin .Add (.bin .Add (.bin .Add (.bin .Add (.const (.str ("    "))) (.attr (.loc 19) 12)) (.ite (.val (.cmp .Eq (.loc 11) (.const (.str ("var"))))) (.const (.str (": "))) (.const (.str (" = "))))) (.loc 20)) (.const (.str (";")))) .nil))) .nil)
noncomputable def gPa:ISs:=(.cons (.setl 19 (.sub (.attr (.loc 6) 24) (.loc 10)))
 (.cons (.ite (.val (.cmp .Eq (.attr (.loc 19) 13) (.loc 11))) (.cons (.setl 20 (.bmeth .get (.loc 7) (.cons (.attr (.loc 19) 12) (.cons (.const (.str (""))) .nil))))
 (.cons (.setl 21 (.call .lnamed (.cons (.attr (.loc 6) 24) (.cons (.loc 10) (.cons (.loc 8) .nil)))))
 (.cons (.ite (.val (.cmp .Eq (.loc 11) (.const (.str ("type"))))) (.cons (.setl 20 (.ite (.val (.cmp .In (.attr (.loc 19) 12) (.loc 8))) (.call .ltext (.cons (.loc 21) (.cons (.attr (.loc 19) 14) .nil))) (.call .lstructure (.cons (.loc 21) (.cons (.attr (.loc 19) 14) .nil)))))
 .nil) (.cons (.ite (.val (.cmp .Eq (.loc 11) (.const (.str ("var"))))) (.cons (.setl 20 (.call .ltext (.cons (.loc 15) (.cons (.attr (.loc 19) 14) .nil))))
 .nil) .nil)
 .nil)) xG))) .nil)
 .nil))
section
variable {A:Ad} {imp:Bool} {xs:List Sh} {Hs H:Heap} {n pt ln j kk:Nat} {wf:Sh→Str} {x11 x12 x13 x14 x16 x17 x19 x20 x21:Option V} {Q:Fl × Env→Heap→Prop}
theorem wO {cf:aU} {x:Sh} {vs:List V} {w:Str} (N:Fin A imp xs Hs) (hx:x ∈ xs) (hk:x.kd = kk) (h3:kk < 3) (e:Ext Hs H) (g:H[pt]? = some (.list vs)) (hl:vs.length ≤ 6) (hw:SL 900000 w)
  (q:∀ H1 H',Ext H H1→bQ H1 pt (.list (vs ++ [.str (fB x ++ w ++ ";")])) H'→Q (.next,lvE A (some (.int j)) (some (.str (kS kk))) x12 x13 x14 (some (.ref ln)) x16 x17 (some (.ref pt)) (some (.ref x.o)) (some (.str w)) x21) H') :
  W (aJ cf xG (lvE A (some (.int j)) (some (.str (kS kk))) x12 x13 x14 (some (.ref ln)) x16 x17 (some (.ref pt)) (some (.ref x.o)) (some (.str w)) x21) H) Q:=by
 have ok:=(N.ext e).ok x hx
 have s4:SL 4 ("    ":Str):=aN (by kernel_rfl)
 have sm:SL 3 (mid x):=by unfold mid; split <;> exact aN (by kernel_rfl)
 have hm:PE cf (lvE A (some (.int j)) (some (.str (kS kk))) x12 x13 x14 (some (.ref ln)) x16 x17 (some (.ref pt)) (some (.ref x.o)) (some (.str w)) x21) H (.ite (.val (.cmp .Eq (.loc 11) (.const (.str ("var"))))) (.const (.str (": "))) (.const (.str (" = ")))) (.str (mid x)):=by
  have ht:PT cf (lvE A (some (.int j)) (some (.str (kS kk))) x12 x13 x14 (some (.ref ln)) x16 x17 (some (.ref pt)) (some (.ref x.o)) (some (.str w)) x21) H (.val (.cmp .Eq (.loc 11) (.const (.str ("var"))))) (decide (kk = 2)):=aO (aR (aA rfl) aB (congrArg some (qT kk (by exact lin [_] (.a .x (.n 1)) (.n 4) [(.a .x (.n 1),.n 3)] rfl h3) 2 (by decide))))
  unfold mid
  by_cases h:kk = 2
  ·rw [decide_eq_true h] at ht
   rw [if_pos (hk.trans h)]
   exact kZ ht aB
  ·rw [decide_eq_false h] at ht
   rw [if_neg (fun w=>h (hk.symm.trans w))]
   exact gK ht aB
 have hh:PE cf (lvE A (some (.int j)) (some (.str (kS kk))) x12 x13 x14 (some (.ref ln)) x16 x17 (some (.ref pt)) (some (.ref x.o)) (some (.str w)) x21) H (.bin .Add (.bin .Add (.const (.str ("    "))) (.attr (.loc 19) 12)) (.ite (.val (.cmp .Eq (.loc 11) (.const (.str ("var"))))) (.const (.str (": "))) (.const (.str (" = "))))) (.str (fB x)):=by
  rw [show fB x = "    " ++ x.name ++ mid x from if_neg (by exact fun q_=>rB [_,_] [(.n 3,.x),(.x,.y),(.a .y (.n 1),.n 3)] rfl (Nat.le_of_eq q_.symm) (Nat.le_of_eq hk) h3)]
  exact bR (bR aB (aF (aA rfl) ok.ob rfl) s4 (N.sl hx) rfl) hm (aV s4 (N.sl hx)) sm rfl
 refine rG (aA rfl) g hl hh (aEa N hx) hw (E_p (aA rfl) ⟨rfl,Ext.refl _⟩) q
inductive LI (A:Ad) (xs:List Sh) (Hs:Heap) (pt ln kk:Nat) (wf:Sh→Str) (x12 x13 x14 x16 x17:Option V) (j:Nat) (env:Env) (H:Heap):Prop where
 | mk (x10 x19 x20 x21:Option V):env = lvE A x10 (some (.str (kS kk))) x12 x13 x14 (some (.ref ln)) x16 x17 (some (.ref pt)) x19 x20 x21→Ext Hs H→H[pt]? = some (.list ((aY wf kk (xs.take j)).map V.str))→LI A xs Hs pt ln kk wf x12 x13 x14 x16 x17 j env H
theorem wVa (N:Fin A imp xs Hs) (wk:∀ x ∈ xs,WOK xs Hs x (wf x)) (h3:kk < 3) (hj:j < xs.length) (hln:LN Hs ln (nmT xs)) (hp:Hs[pt]? = none) (e:Ext Hs H) (g:H[pt]? = some (.list ((aY wf kk (xs.take j)).map V.str))) :
  W (aJ (aC tbl (n + 30)) gPa (lvE A (some (.int j)) (some (.str (kS kk))) x12 x13 x14 (some (.ref ln)) x16 x17 (some (.ref pt)) x19 x20 x21) H) fun x H1=>match x.1 with | .ret _=>Q x H1 | _=>LI A xs Hs pt ln kk wf x12 x13 x14 x16 x17 (j + 1) x.2 H1:=by
 have hx:xs[j] ∈ xs:=List.getElem_mem hj
 have hat:=N.at_ hj
 have Nx:=N.ext e
 have ok:=Nx.ok _ hx
 have hsh:∃ im,H[A.sh]? = some (fU A.ob im):=by cases Nx.sh with | mk e _ _ _=>exact ⟨_,e⟩
 obtain ⟨im,hsh⟩:=hsh
 have hl:((aY wf kk (xs.take j)).map V.str).length ≤ 6:=by rw [List.length_map]; exact Nat.le_trans dMa N.len
 have w:=wk _ hx
 refine gA (cQ (aF (aA rfl) hsh rfl) (aA rfl) Nx.ob (by rw [lM (by rw [List.length_map]; exact hj),List.getElem_map])) ?_
 have htest:PT (aC tbl (n + 30)) (lvE A (some (.int j)) (some (.str (kS kk))) x12 x13 x14 (some (.ref ln)) x16 x17 (some (.ref pt)) (some (.ref xs[j].o)) x20 x21) H (.val (.cmp .Eq (.attr (.loc 19) 13) (.loc 11))) (decide (xs[j].kd = kk)) :=
  aO (aR (aF (aA rfl) ok.ob rfl) (aA rfl) (congrArg some (qT _ ok.kd kk (by exact lin [_] (.a .x (.n 1)) (.n 4) [(.a .x (.n 1),.n 3)] rfl h3))))
 have hsn:=yG (wf:=wf) (kk:=kk) hj
 have ali:=Nx.alias hx
 generalize xs[j] = x at hx hat ok w htest hsn ali
 by_cases hk:x.kd = kk
 ·rw [decide_eq_true hk] at htest
  rw [if_pos hk] at hsn
  obtain ⟨es,gv,hv⟩:=Nx.vd
  have fin:∀ {H1 H':Heap} {y21:Option V},Ext Hs H1→bQ H1 pt (.list ((aY wf kk (xs.take j)).map V.str ++ [.str (fB x ++ wf x ++ ";")])) H'→LI A xs Hs pt ln kk wf x12 x13 x14 x16 x17 (j + 1) (lvE A (some (.int j)) (some (.str (kS kk))) x12 x13 x14 (some (.ref ln)) x16 x17 (some (.ref pt)) (some (.ref x.o)) (some (.str (wf x))) y21) H':=fun e1 s=>.mk _ _ _ _ rfl (e1.set s hp) (by rw [s.self,hsn,List.map_append]; rfl)
  refine cJ htest (bC (fO (E_p (aA rfl) ⟨xY (.inl rfl) gv,aD (aF (aA rfl) ok.ob rfl) (aD aB (aK (qTa gv ?_)))⟩)))
  refine bC (bO (aD (aF (aA rfl) hsh rfl) (aD (aA rfl) (aD (aA rfl) (aK ((bSa (n:=n + 29) Nx j).mono fun v H1 k=>?_))))))
  obtain ⟨l21,rfl,x1,hl21⟩:=k
  have e1:=e.trans x1
  have ok1:=(N.ext e1).ok x hx
  have g1:=x1.get g
  have test:∀ {s:Str} {b:Bool},decide (kS kk = s) = b→PT (aC tbl (n + 30)) (lvE A (some (.int j)) (some (.str (kS kk))) x12 x13 x14 (some (.ref ln)) x16 x17 (some (.ref pt)) (some (.ref x.o)) (some ((look x.name es).getD (.str ""))) (some (.ref l21))) H1 (.val (.cmp .Eq (.loc 11) (.const (.str s)))) b:=fun h=>aO (aR (aA rfl) aB (congrArg some h))
  have c1:=test (s:="type") (rW (by exact lin [_] (.a .x (.n 1)) (.n 4) [(.a .x (.n 1),.n 3)] rfl h3))
  have c2:PT (aC tbl (n + 30)) _ H1 (.val (.cmp .Eq (.loc 11) (.const (.str "var")))) (decide (kk = 2)):=test (qT kk (by exact lin [_] (.a .x (.n 1)) (.n 4) [(.a .x (.n 1),.n 3)] rfl h3) 2 (by decide))
  have c012:∀ kk:Nat,kk < 3→kk = 0 ∨ kk = 1 ∨ kk = 2:=by decide
  rcases c012 kk h3 with h | h | h
  ·rw [decide_eq_false (by rw [h]; exact fun q=>nomatch q)] at c1 c2
   rw [hv x hx (hk.trans h)] at c1 c2 ⊢
   rw [← w.con (hk.trans h)] at c1 c2 ⊢
   exact bH c1 (bH c2 (aX (aZ (aX (aZ (wO N hx hk h3 e1 g1 hl w.len fun H2 H' e2 s=>aZ (aX (fin (e1.trans e2) s))))))))
  ·rw [decide_eq_true h] at c1
   have h1:x.kd = 1:=hk.trans h
   have hin:PT (aC tbl (n + 30)) (lvE A (some (.int j)) (some (.str (kS kk))) x12 x13 x14 (some (.ref ln)) x16 x17 (some (.ref pt)) (some (.ref x.o)) (some ((look x.name es).getD (.str ""))) (some (.ref l21))) H1 (.val (.cmp .In (.attr (.loc 19) 12) (.loc 8))) x.al:=aO (aR (aF (aA rfl) ok1.ob rfl) (aA rfl) (by
    show inS x.name H1[A.al]? = _
    rw [(N.ext e1).al,← ali]
    exact kE (by rw [List.all_map]; exact List.all_eq_true.mpr fun _ _=>rfl) _))
   have hlaw:=w.law (by rw [h1]; exact fun q=>nomatch q) n H1 l21 e1 (by rw [show Nm xs x = nmT (xs.filter (keep x.at_)) from if_pos h1,hat]; exact hl21)
   have hf:fL x = if x.al = true then .ltext else .lstructure:=by unfold fL; rw [h1]; cases x.al <;> rfl
   rw [hf] at hlaw
   have fin2:∀ {f:F},W (aC tbl (n + 30) f [.ref l21,.ref x.t] H1) (Ret H1 (.str (wf x)))→W (aH (aC tbl (n + 30)) (lvE A (some (.int j)) (some (.str (kS kk))) x12 x13 x14 (some (.ref ln)) x16 x17 (some (.ref pt)) (some (.ref x.o)) (some ((look x.name es).getD (.str ""))) (some (.ref l21))) (.call f (.cons (.loc 21) (.cons (.attr (.loc 19) 14) .nil))) H1) fun v H2=>W (aJ (aC tbl (n + 30)) .nil (lvE A (some (.int j)) (some (.str (kS kk))) x12 x13 x14 (some (.ref ln)) x16 x17 (some (.ref pt)) (some (.ref x.o)) (some v) (some (.ref l21))) H2) (Aft (aC tbl (n + 30)) xG (Aft (aC tbl (n + 30)) .nil fun x H1=>match x.1 with | .ret _=>Q x H1 | _=>LI A xs Hs pt ln kk wf x12 x13 x14 x16 x17 (j + 1) x.2 H1)):=fun hw=>by
    refine bO (aD (aA rfl) (aD (aF (aA rfl) ok1.ob rfl) (aK (hw.mono fun v H2 k=>?_))))
    obtain ⟨rfl,x2⟩:=k
    exact aX (aZ (wO N hx hk h3 (e1.trans x2) (x2.get g1) hl w.len fun H3 H' e3 s=>aZ (aX (fin (e1.trans (x2.trans e3)) s))))
   refine cJ c1 (bC ?_)
   cases ha:x.al with
   | true=>rw [ha] at hin hlaw; exact mL hin (fin2 hlaw)
   | false=>rw [ha] at hin hlaw; exact mZ hin (fin2 hlaw)
  ·rw [decide_eq_false (by rw [h]; exact fun q=>nomatch q)] at c1
   rw [decide_eq_true h] at c2
   have h2:x.kd = 2:=hk.trans h
   have hlaw:=w.law (by rw [h2]; exact fun q=>nomatch q) n H1 ln e1 (by rw [show Nm xs x = nmT xs from if_neg (by rw [h2]; exact fun q=>nomatch q)]; exact hln.ext e1)
   rw [show fL x = .ltext by unfold fL; rw [h2]; rfl] at hlaw
   refine bH c1 (cJ c2 (bC (bO (aD (aA rfl) (aD (aF (aA rfl) ok1.ob rfl) (aK (hlaw.mono fun v H2 k=>?_)))))))
   obtain ⟨rfl,x2⟩:=k
   exact aX (aZ (aX (aZ (wO N hx hk h3 (e1.trans x2) (x2.get g1) hl w.len fun H3 H' e3 s=>aZ (aX (fin (e1.trans (x2.trans e3)) s))))))
 ·rw [decide_eq_false hk] at htest
  rw [if_neg hk,List.append_nil] at hsn
  exact bH htest (bF (aX (.mk _ _ _ _ rfl e (by rw [hsn]; exact g))))
end
end Mine.C
end
section
namespace Mine.C
open PySem (Expr Stmt Str)
theorem eVa {H:Heap} {a b:Nat} {us vs:List V} {Q:V→Heap→Prop} (ga:H[a]? = some (.list us)) (gb:H[b]? = some (.list vs)) (hl:us.length + vs.length ≤ 1000) (hn:a ≠ b) (q:∀ H',bQ H a (.list (us ++ vs)) H'→Q (.ref a) H'):W (gH (.ref a) (.ref b) H) Q:=by
 show W ((cN H[a]?).bind fun us=>(eU (.ref b)).bind fun b=>(cN H[b]?).bind fun vs=>aP (decide (us.length + vs.length ≤ 1000∧a ≠ b)) _) Q
 rw [ga]
 show W ((cN H[b]?).bind fun vs=>aP (decide (us.length + vs.length ≤ 1000∧a ≠ b)) _) Q
 rw [gb]
 show W (aP (decide _) _) Q
 rw [cR ⟨hl,hn⟩]
 exact q _ (gJ ga)
noncomputable def hdS (k:Nat):Str:=(["  CONST","  TYPE","  VAR"]:List Str)[k]?.getD ""
noncomputable def acc (imp:Bool) (R:Nat→List Str):Nat→List Str
 | 0=>hdR imp
 | k + 1=>acc imp R k ++ sec (hdS k) (R k)
theorem jNa (imp:Bool) (R:Nat→List Str):acc imp R 3 ++ R 3 = jK imp R:=rfl
theorem aAa {imp:Bool} {R:Nat→List Str} (h:∀ k,(R k).length ≤ 6):∀ k,k ≤ 3→(acc imp R k).length ≤ 2 + 7 * k
 | 0,_=>by show (hdR imp).length ≤ 2; cases imp <;> exact Nat.le_of_ble_eq_true (by kernel_rfl)
 | k + 1,hk=>by
  show (acc imp R k ++ sec (hdS k) (R k)).length ≤ _
  rw [List.length_append]
  have h1:=aAa (imp:=imp) h k (by exact lin [_] .x (.n 3) [(.a .x (.n 1),.n 3)] rfl hk)
  have h2:=(lO (hdS k) (R k)).1
  have h3:=h k
  exact lin [_,_,_,_] (.a .x .y) (.a (.n 2) (.m 7 (.a .z (.n 1)))) [(.x,.a (.n 2) (.m 7 .z)),(.y,.a .w (.n 1)),(.w,.n 6)] rfl h1 h2 h3
noncomputable def gNa:ISs:=(.cons (.setl 18 (.list .nil))
 (.cons (.for [10] false (.range (.blt .len (.cons (.attr (.loc 6) 24) .nil))) gPa)
 (.cons (.augl 16 (.ite (.val (.cmp .NotEq (.loc 18) (.list .nil))) (.bin .Add (.list (.cons (.loc 17) .nil)) (.loc 18)) (.list .nil)))
 .nil)))
section
variable {A:Ad} {imp:Bool} {xs:List Sh} {H0 H:Heap} {n ln rl kk:Nat} {wf:Sh→Str} {x10 x11 x12 x13 x14 x17 x18 x19 x20 x21:Option V} {Q:Fl × Env→Heap→Prop}
theorem wRa (N:Fin A imp xs H0) (wk:∀ x ∈ xs,WOK xs H0 x (wf x)) (h3:kk < 3) (hln:LN H0 ln (nmT xs)) (e:Ext H0 H) (g:H[rl]? = some (.list ((acc imp (fun k=>aY wf k xs) kk).map V.str)))
  (q:∀ H' y10 y18 y19 y20 y21,But rl H H'→H'[rl]? = some (.list ((acc imp (fun k=>aY wf k xs) (kk + 1)).map V.str))→Q (.next,lvE A y10 (some (.str (kS kk))) x12 x13 x14 (some (.ref ln)) (some (.ref rl)) (some (.str (hdS kk))) y18 y19 y20 y21) H') :
  W (aJ (aC tbl (n + 30)) gNa (lvE A x10 (some (.str (kS kk))) x12 x13 x14 (some (.ref ln)) (some (.ref rl)) (some (.str (hdS kk))) x18 x19 x20 x21) H) Q:=by
 have Nh:=N.ext e
 have hsh:∃ im,H[A.sh]? = some (fU A.ob im):=by cases Nh.sh with | mk e _ _ _=>exact ⟨_,e⟩
 obtain ⟨im,hsh⟩:=hsh
 have wkh:∀ x ∈ xs,WOK xs H x (wf x):=fun x hx=>let w:=wk x hx; ⟨w.len,w.con,fun h n H' p s0 sd e'=>w.prg h n H' p s0 sd (e.trans e'),fun h n H' l e'=>w.law h n H' l (e.trans e')⟩
 have h6:∀ k,(aY wf k xs).length ≤ 6:=fun k=>vY N
 refine bC (bU (aK (bJ (aG rfl) fun pt H1 x1 g1 m1=>?_)))
 refine cY (oV (E_p (gM (aF (aA rfl) (x1.get hsh) rfl) (x1.get Nh.ob)) ⟨xs.length,by rw [List.length_map],by have:=N.len; exact lin [_] .x (.n 1000) [(.x,.n 6)] rfl this,?_⟩))
 refine pG (LI A xs H pt ln kk wf x12 x13 x14 (some (.ref rl)) (some (.str (hdS kk)))) (fun j env H2 hj k=>?_) (fun env H2 k=>?_) (.mk x10 x19 x20 x21 rfl x1 g1)
 ·cases k with
  | mk y10 y19 y20 y21 he e' g' =>
  subst he
  exact dM (env1:=lvE A (some (.int j)) (some (.str (kS kk))) x12 x13 x14 (some (.ref ln)) (some (.ref rl)) (some (.str (hdS kk))) (some (.ref pt)) y19 y20 y21) rfl (wVa Nh wkh h3 hj (hln.ext e) m1 e' g')
 ·cases k with
  | mk y10 y19 y20 y21 he e' g' =>
  subst he
  rw [List.take_length] at g'
  have fin:∀ {b:Nat} {H3:Heap} {rs:List Str},Ext H2 H3→H3[b]? = some (.list (rs.map V.str))→b ≠ rl→rs = sec (hdS kk) (aY wf kk xs)→W (gH (.ref rl) (.ref b) H3) fun u H4=>W (aJ (aC tbl (n + 30)) .nil (bB 16 u (lvE A y10 (some (.str (kS kk))) x12 x13 x14 (some (.ref ln)) (some (.ref rl)) (some (.str (hdS kk))) (some (.ref pt)) y19 y20 y21)) H4) Q:=fun {b H3 rs} e3 gb hb hr=>by
   refine eVa (e3.get (e'.get g)) gb ?_ hb.symm fun H4 s4=>aX (q H4 _ _ _ _ _ ((e'.trans e3).but.trans s4.but) (by rw [s4.self,hr]; show _ = some (O.list (List.map V.str (_ ++ _))); rw [List.map_append]))
   rw [List.length_map,List.length_map,hr]
   have a1:=aAa (imp:=imp) (R:=fun k=>aY wf k xs) h6 kk (by exact lin [_] .x (.n 3) [(.a .x (.n 1),.n 3)] rfl h3)
   have a2:=(lO (hdS kk) (aY wf kk xs)).1
   have a3:=h6 kk
   exact lin [_,_,_,_] (.a .x .y) (.n 1000) [(.x,.a (.n 2) (.m 7 .z)),(.y,.a .w (.n 1)),(.a .z (.n 1),.n 3),(.a .z (.n 1),.n 3),(.a .z (.n 1),.n 3),(.a .z (.n 1),.n 3),(.a .z (.n 1),.n 3),(.a .z (.n 1),.n 3),(.a .z (.n 1),.n 3),(.w,.n 6)] rfl a1 a2 h3 h3 h3 h3 h3 h3 h3 a3
  have hne:∀ {c:Nat} {H3:Heap},Ext H2 H3→H3[c]? = none→c ≠ rl:=fun e3 m=>(bV (e3.get (e'.get g)) m).symm
  refine aZ (nP (old:=.ref rl) rfl (nQ (pR (aA rfl) g' fun H3 x3=>⟨fun hw=>?_,fun hw=>?_⟩)))
  ·have g3:=x3.get g'
   refine bW (bU (aD (aA rfl) (aK (bJ (aG rfl) fun c H4 x4 g4 m4=>E_p (aA rfl) (sX g4 (x4.get g3) ?_ fun d H5 x5 g5 m5=>?_)))))
   ·rw [List.length_append,List.length_map]
    have:=h6 kk
    show 1 + _ ≤ 1000
    exact lin [_] (.a (.n 1) .x) (.n 1000) [(.x,.n 6)] rfl this
   ·refine fin (rs:=hdS kk :: aY wf kk xs) (x3.trans (x4.trans x5)) g5 (hne (x3.trans x4) m5) ?_
    unfold sec
    rw [if_neg]
    intro q
    rw [List.isEmpty_map,q] at hw
    cases hw
  ·refine bU (aK (bJ (aG rfl) fun c H4 x4 g4 m4=>fin (rs:=[]) (x3.trans x4) g4 (hne x3 m4) ?_))
   unfold sec
   rw [if_pos]
   rw [List.isEmpty_map] at hw
   simpa using hw
end
end Mine.C
end
section
namespace Mine.C
open PySem (Expr Stmt Str)
noncomputable def kDa:ISs:=(.cons (.ret (.cmp .Eq (.call .definition_text (.cons (.loc 6) .nil)) (.bin .Add (.bmeth .join (.const (.str ("\n"))) (.cons (.bin .Add (.loc 16) (.list (.cons (.const (.str ("END M."))) .nil))) .nil)) (.const (.str ("\n")))))) .nil)
noncomputable def nAa:IE:=(.bin .Add (.bin .Add (.bin .Add (.const (.str ("  PROCEDURE "))) (.attr (.loc 22) 12)) (.call .lsignature (.cons (.loc 15) (.cons (.attr (.loc 22) 14) .nil)))) (.const (.str (";"))))
noncomputable def fHa:ISs:=(.cons (.augl 16 (.comp [22] false (.of (.attr (.loc 6) 24)) (.cons (.val (.cmp .Eq (.attr (.loc 22) 13) (.const (.str ("proc"))))) .nil) nAa)) kDa)
noncomputable def xQ:ISs:=(.cons (.for [11,17] true (.of (.list (.cons (.tuple (.cons (.const (.str ("const"))) (.cons (.const (.str ("  CONST"))) .nil))) (.cons (.tuple (.cons (.const (.str ("type"))) (.cons (.const (.str ("  TYPE"))) .nil))) (.cons (.tuple (.cons (.const (.str ("var"))) (.cons (.const (.str ("  VAR"))) .nil))) .nil))))) gNa) fHa)
noncomputable def iUa:ISs:=(.cons (.setl 15 (.call .lnamed (.cons (.attr (.loc 6) 24) (.cons (.blt .len (.cons (.attr (.loc 6) 24) .nil)) (.cons (.loc 8) .nil)))))
 (.cons (.setl 16 (.bin .Add (.list (.cons (.const (.str ("DEFINITION M;"))) .nil)) (.ite (.val (.cmp .NotEq (.attr (.loc 6) 25) (.list .nil))) (.list (.cons (.const (.str ("  IMPORT N;"))) .nil)) (.list .nil))))
 xQ))
theorem WOK.ext {xs:List Sh} {H H':Heap} {x:Sh} {w:Str} (h:WOK xs H x w) (e:Ext H H'):WOK xs H' x w:=⟨h.len,h.con,fun a n H2 p s0 sd e'=>h.prg a n H2 p s0 sd (e.trans e'),fun a n H2 l e'=>h.law a n H2 l (e.trans e')⟩
section
variable {A:Ad} {imp:Bool} {xs:List Sh} {H0 H:Heap} {n ln rl:Nat} {wf:Sh→Str} {x10 x11 x12 x13 x14 x17 x18 x19 x20 x21:Option V}
theorem iOa {kk:Nat} {l:List Sh} {x:Sh}:aY wf kk (l ++ [x]) = aY wf kk l ++ if x.kd = kk then [pO wf x] else []:=by
 unfold aY
 rw [List.filter_append,List.map_append]
 refine congrArg _ ?_
 rw [List.filter_cons]
 by_cases h:x.kd = kk
 ·rw [if_pos (decide_eq_true h),if_pos h]; rfl
 ·rw [if_neg (by rw [decide_eq_false h]; exact fun q=>nomatch q),if_neg h]; rfl
inductive CM (xs:List Sh) (H:Heap) (wf:Sh→Str) (l acc:List V) (H':Heap):Prop where
 | mk (done rest:List Sh):l = rest.map (fun x=>.ref x.o)→acc = (aY wf 3 done).map V.str→done ++ rest = xs→Ext H H'→CM xs H wf l acc H'
theorem vOa (N:Fin A imp xs H0) (wk:∀ x ∈ xs,WOK xs H0 x (wf x)) (hln:LN H0 ln (nmT xs)) (e:Ext H0 H) (hrl:H0[rl]? = none) (g:H[rl]? = some (.list ((acc imp (fun k=>aY wf k xs) 3).map V.str))) :
  W (aJ (aC tbl (n + 33)) fHa (lvE A x10 x11 x12 x13 x14 (some (.ref ln)) (some (.ref rl)) x17 x18 x19 x20 x21) H) (Out fun v _=>v = .bool true):=by
 have Nh:=N.ext e
 have hsh:∃ im,H[A.sh]? = some (fU A.ob im):=by cases Nh.sh with | mk e _ _ _=>exact ⟨_,e⟩
 obtain ⟨im,hsh⟩:=hsh
 have h6:∀ k,(aY wf k xs).length ≤ 6:=fun k=>vY N
 refine nP (old:=.ref rl) rfl (mD (W.of (iJ (aF (aA rfl) hsh rfl) Nh.ob) ?_))
 refine (tV (Q:=fun us H'=>us = (aY wf 3 xs).map V.str∧Ext H H') (CM xs H wf) ?_ ?_ ?_ _ [] H (.mk [] xs rfl rfl rfl (Ext.refl _))).mono fun us H1 k=>?_
 ·rintro l ac H' ⟨_,_,_,_,_,e'⟩
  exact cO (e'.get Nh.ob)
 ·rintro v l ac H' ⟨done,rest,h1,rfl,h3,e'⟩
  clear hsh; cases rest with
  | nil=>first | exact nos h1 | exact nof h1 | cases h1
  | cons x rest =>
  cases h1
  have hx:x ∈ xs:=by rw [← h3]; exact List.mem_append_right _ (.head _)
  have w:=wk x hx
  have ok:=(Nh.ext e').ok x hx
  have ht:PT (aC tbl (n + 33)) [none,some (.ref A.c),some (.ref A.h),some (.ref A.T),some (.ref A.ot),some (.ref A.pl),some (.ref A.sh),some (.ref A.vd),some (.ref A.al),some (.ref A.oc),x10,x11,x12,x13,x14,some (.ref ln),some (.ref rl),x17,x18,x19,x20,x21,some (.ref x.o),none,none,none] H' (.val (.cmp .Eq (.attr (.loc 22) 13) (.const (.str ("proc"))))) (decide (x.kd = 3)):=aO (aR (aF (aA rfl) ok.ob rfl) aB (congrArg some (kS0 ok.kd).2))
  have hd:(done ++ [x]) ++ rest = xs:=by rw [← h3,List.append_assoc]; rfl
  refine xO (env1:=[none,some (.ref A.c),some (.ref A.h),some (.ref A.T),some (.ref A.ot),some (.ref A.pl),some (.ref A.sh),some (.ref A.vd),some (.ref A.al),some (.ref A.oc),x10,x11,x12,x13,x14,some (.ref ln),some (.ref rl),x17,x18,x19,x20,x21,some (.ref x.o),none,none,none]) rfl (mRa (T_p ht ⟨fun hk=>?_,fun hk=>?_⟩))
  ·have h3:=of_decide_eq_true hk
   have hlaw:=w.law (by rw [h3]; exact fun q=>nomatch q) (n + 3) H' ln (e.trans e') (by rw [show Nm xs x = nmT xs from if_neg (by rw [h3]; exact fun q=>nomatch q)]; exact hln.ext (e.trans e'))
   rw [show fL x = .lsignature by unfold fL; rw [h3]; rfl] at hlaw
   have sp:SL 12 ("  PROCEDURE ":Str):=aN (by kernel_rfl)
   refine bW (bW (E_p (bR aB (aF (aA rfl) ok.ob rfl) sp (N.sl hx) rfl) (bO (aD (aA rfl) (aD (aF (aA rfl) ok.ob rfl) (aK (hlaw.mono fun v H2 k=>?_)))))))
   clear hlaw ht ok Nh hln; obtain ⟨rfl,x2⟩:=k
   refine cH (aV sp (N.sl hx)) w.len rfl (E_p aB (cH (aV (aV sp (N.sl hx)) w.len) (aN (m:=1) (by kernel_rfl)) rfl (.mk (done ++ [x]) rest rfl ?_ hd (e'.trans x2))))
   rw [iOa,if_pos h3,List.map_append]
   show _ ++ [V.str ("  PROCEDURE " ++ x.name ++ wf x ++ ";")] = _ ++ [V.str (pO wf x)]
   rw [show pO wf x = "  PROCEDURE " ++ x.name ++ wf x ++ ";" by unfold pO fB; rw [if_pos h3]]
  ·refine .mk (done ++ [x]) rest rfl ?_ hd e'
   rw [iOa,if_neg (of_decide_eq_false hk),List.append_nil]
   exact List.append_nil _
 ·rintro ac H' ⟨done,rest,h1,rfl,h3,e'⟩
  clear hsh Nh hln; cases rest with
  | cons _ _=>first | exact nos h1 | exact nof h1 | cases h1
  | nil=>rw [List.append_nil] at h3; subst h3; exact ⟨rfl,e'⟩
 ·clear hsh Nh hln; obtain ⟨rfl,e1⟩:=k
  refine bJ (by rw [List.length_map]; exact Nat.le_trans (h6 3) (aG rfl)) fun c H2 x2 g2 m2=>?_
  have g':=(e1.trans x2).get g
  have hne:rl ≠ c:=bV (e1.get g) m2
  refine eVa g' g2 ?_ hne fun H3 s3=>?_
  ·have a1:=aAa (imp:=imp) (R:=fun k=>aY wf k xs) h6 3 (Nat.le_refl 3)
   have a2:=h6 3
   rw [List.length_map,List.length_map]
   exact lin [_,_] (.a .x .y) (.n 1000) [(.x,.a (.n 2) (.m 7 (.n 3))),(.y,.n 6)] rfl a1 a2
  ·have g3:H3[rl]? = some (.list ((jK imp fun k=>aY wf k xs).map V.str)):=by rw [s3.self,← jNa,List.map_append]
   have e3:Ext H0 H3:=(e.trans (e1.trans x2)).set s3 hrl
   have N3:=N.ext e3
   have wk3:∀ x ∈ xs,WOK xs H3 x (wf x):=fun x hx=>(wk x hx).ext e3
   refine cM (fW (bO (aD (aA rfl) (aK ((sGa (n:=n) N3 wk3).mono fun v H4 k=>?_)))))
   clear e3 s3 hne g' m2 g2 x2 e1 h6 g hrl e wk N; obtain ⟨rfl,x4⟩:=k
   refine fUa (N3.ext x4) (fun x hx=>(wk3 x hx).ext x4) (aA rfl) (x4.get g3) aB fun H5 x5=>tNa ?_
   show V.bool (decide _) = _
   rw [decide_eq_true rfl]
noncomputable def tupS (k:Nat):O:=.tuple [.str (kS k),.str (hdS k)]
inductive LT (A:Ad) (imp:Bool) (xs:List Sh) (wf:Sh→Str) (Hs:Heap) (ln rl:Nat) (ts:List Nat) (l:List V) (env:Env) (H:Heap):Prop where
 | mk (k:Nat) (x10 x11 x12 x13 x14 x17 x18 x19 x20 x21:Option V):k ≤ 3→l = (ts.drop k).map V.ref→env = lvE A x10 x11 x12 x13 x14 (some (.ref ln)) (some (.ref rl)) x17 x18 x19 x20 x21→But rl Hs H→H[rl]? = some (.list ((acc imp (fun k=>aY wf k xs) k).map V.str))→LT A imp xs wf Hs ln rl ts l env H
theorem rGa {Hs:Heap} (N:Fin A imp xs H0) (wk:∀ x ∈ xs,WOK xs H0 x (wf x)) (hln:LN H0 ln (nmT xs)) (e:Ext H0 Hs) (hrl:H0[rl]? = none) (g:Hs[rl]? = some (.list ((hdR imp).map V.str))) :
  W (aJ (aC tbl (n + 33)) xQ (lvE A x10 x11 x12 x13 x14 (some (.ref ln)) (some (.ref rl)) x17 x18 x19 x20 x21) Hs) (Out fun v _=>v = .bool true):=by
 refine cY (gF (bU (cF (fV (aD aB (aD aB (aK (iM (aG rfl) fun t0 H1 y1 g1 m1=>?_))))))))
 refine cF (fV (aD aB (aD aB (aK (iM (aG rfl) fun t1 H2 y2 g2 m2=>?_)))))
 refine cF (fV (aD aB (aD aB (aK (iM (aG rfl) fun t2 H3 y3 g3 m3=>aK (bJ (aG rfl) fun lt H4 y4 g4 m4=>?_))))))
 refine ⟨⟨_,.list lt _⟩,by show itO lt H4[lt]? = _; rw [g4]; rfl,?_⟩
 have e4:Ext Hs H4:=y1.trans (y2.trans (y3.trans y4))
 have gt:∀ k,k < 3→∃ t,[t0,t1,t2][k]? = some t∧t ≠ rl∧H4[t]? = some (tupS k):=fun k hk=>by
  have c012:∀ kk:Nat,kk < 3→kk = 0 ∨ kk = 1 ∨ kk = 2:=by decide
  have ne:∀ {t:Nat} {H:Heap},Ext Hs H→H[t]? = none→t ≠ rl:=fun e m=>(bV (e.get g) m).symm
  rcases c012 k hk with rfl | rfl | rfl
  ·exact ⟨t0,rfl,ne (Ext.refl _) m1,(y2.trans (y3.trans y4)).get g1⟩
  ·exact ⟨t1,rfl,ne y1 m2,(y3.trans y4).get g2⟩
  ·exact ⟨t2,rfl,ne (y1.trans y2) m3,y4.get g3⟩
 have hlt:lt ≠ rl:=(bV ((y1.trans (y2.trans y3)).get g) m4).symm
 have to0:∀ {H:Heap},But rl H4 H→Ext H0 H:=fun b a o ea=>b a o (fun w=>by rw [w,hrl] at ea; cases ea) (e4.get (e.get ea))
 refine lB (LT A imp xs wf H4 ln rl [t0,t1,t2]) ?_ ?_ ?_ _ _ _ (.mk 0 x10 x11 x12 x13 x14 x17 x18 x19 x20 x21 (Nat.zero_le _) rfl rfl (fun _ _ _ e=>e) (e4.get g))
 ·rintro l env H ⟨_,_,_,_,_,_,_,_,_,_,_,_,_,_,b,_⟩
  exact cO (b _ _ hlt g4)
 ·rintro v l env H ⟨k,z10,z11,z12,z13,z14,z17,z18,z19,z20,z21,hk,hl,rfl,b,gk⟩
  clear e4 m4 g4 y4 m3 g3 y3 m2 g2 y2 m1 g1 y1 g e; by_cases h3:k < 3
  ·obtain ⟨t,ht,tne,tg⟩:=gt k h3
   have hd:[t0,t1,t2].drop k = t :: [t0,t1,t2].drop (k + 1):=by
    obtain ⟨hlt,ht⟩:=List.getElem?_eq_some_iff.mp ht
    rw [List.drop_eq_getElem_cons hlt,ht]
   rw [hd] at hl
   clear hd ht hlt gt; cases hl
   refine dM (env1:=lvE A z10 (some (.str (kS k))) z12 z13 z14 (some (.ref ln)) (some (.ref rl)) (some (.str (hdS k))) z18 z19 z20 z21) (by show (jG H[t]?).bind _ = _; rw [b _ _ tne tg]; rfl) ?_
   exact wRa (n:=n + 3) N wk h3 hln (to0 b) gk fun H' y10 y18 y19 y20 y21 b' g'=>.mk (k + 1) _ _ _ _ _ _ _ _ _ _ h3 rfl rfl (b.trans b') g'
  ·rw [List.drop_of_length_le (by show 3 ≤ k; exact lin [_] (.n 3) .x [(.n 3,.x)] rfl (Nat.le_of_not_lt h3))] at hl
   clear h3 hlt gt; cases hl
 ·rintro env H ⟨k,z10,z11,z12,z13,z14,z17,z18,z19,z20,z21,hk,hl,rfl,b,gk⟩
  have hk3:k = 3:=by
   have:=congrArg List.length hl
   rw [List.length_map,List.length_drop] at this
   have:0 = 3 - k:=this
   exact Nat.le_antisymm (lin [_] .x (.n 3) [(.x,.n 3)] rfl hk) (lin [_,_] (.n 3) .x [(.n 3,.a .y .x),(.y,.n 0)] rfl (dK _ _) (Nat.le_of_eq this.symm))
  clear hl hk hlt gt e4 m4 g4 y4 m3 g3 y3 m2 g2 y2 m1 g1 y1 g e; subst hk3
  exact aZ (vOa N wk hln (to0 b) hrl gk)
theorem kPa (N:Fin A imp xs H):W (aJ (aC tbl (n + 33)) iUa (lwE A x10 x11 x12 x13 x14) H) (Out fun v _=>v = .bool true):=by
 let wf:Sh→Str:=fun x=>Classical.epsilon fun w=>WOK xs H x w
 have wk:∀ x ∈ xs,WOK xs H x (wf x):=fun x hx=>Classical.epsilon_spec (wok N hx)
 cases N.sh with
 | @mk ts i1 i2 i3 i4 =>
 have hlen:PE (aC tbl (n + 33)) (lwE A x10 x11 x12 x13 x14) H (.blt .len (.cons (.attr (.loc 6) 24) .nil)) (.int xs.length):=by
  have:=gM (cf:=aC tbl (n + 33)) (aF (aA (env:=lwE A x10 x11 x12 x13 x14) (i:=6) rfl) i1 (n:=24) rfl) N.ob
  rwa [List.length_map] at this
 refine bC (bO (aD (aF (aA rfl) i1 rfl) (aD hlen (aD (aA rfl) (aK ((bSa (n:=n + 32) N xs.length).mono fun v H1 k=>?_))))))
 clear hlen i4; obtain ⟨ln,rfl,x1,hln⟩:=k
 rw [show xs.filter (keep xs.length) = xs from List.filter_eq_self.mpr fun y hy=>by unfold keep; rw [decide_eq_true (N.lt hy)]; rfl] at hln
 have N1:=N.ext x1
 have rest:∀ {b d:Nat} {H2 H3:Heap},Ext H1 H2→H2[d]? = some (.list [.str "DEFINITION M;"])→Ext H2 H3→H3[b]? = some (.list ((zE imp).map V.str))→W (iH .Add (.ref d) (.ref b) H3) fun v H4=>W (aJ (aC tbl (n + 33)) xQ (bB 16 v (bB 15 (.ref ln) (lwE A x10 x11 x12 x13 x14))) H4) (Out fun v _=>v = .bool true):=fun {b d H2 H3} e2 gd e3 gb=>by
  have hi:(zE imp).length ≤ 1:=by cases imp <;> exact Nat.le_of_ble_eq_true (by kernel_rfl)
  refine sX (e3.get gd) gb (by rw [List.length_append,List.length_map]; show 1 + _ ≤ 1000; exact lin [_] (.a (.n 1) .x) (.n 1000) [(.x,.n 1)] rfl hi) fun rl H4 x4 g4 m4=>?_
  have e4:=e2.trans (e3.trans x4)
  exact rGa (n:=n) N1 (fun x hx=>(wk x hx).ext x1) hln e4 ((e2.trans e3).none m4) (by rw [g4]; unfold hdR; rw [List.map_append]; rfl)
 refine bC (bW (bU (aD aB (aK (bJ (aG rfl) fun d H2 x2 g2 m2=>?_)))))
 refine nQ (pR (aF (aA rfl) (x2.get (x1.get i1)) rfl) (x2.get (x1.get i2)) fun H3 x3=>?_)
 have im:(ts.map V.ref).isEmpty = !imp:=by
  rw [List.isEmpty_map]
  clear m2 N1 hln x1 i2 i1 wk N; cases imp with
  | true=>cases ts with
   | nil=>first | exact nos i3 | exact nof i3 | cases i3
   | cons _ _=>rfl
  | false=>cases ts with
   | nil=>rfl
   | cons _ _=>first | exact nos i3 | exact nof i3 | cases i3
 rw [im,Bool.not_not]
 refine ⟨fun w=>?_,fun w=>?_⟩
 ·clear im m2 N1 hln x1 i3 i2 i1 wk N; subst w
  exact bU (aD aB (aK (bJ (aG rfl) fun c H4 x4 g4 m4=>rest x2 g2 (x3.trans x4) g4)))
 ·clear im m2 N1 hln x1 i3 i2 i1 wk N; subst w
  exact bU (aK (bJ (aG rfl) fun c H4 x4 g4 m4=>rest x2 g2 (x3.trans x4) g4))
end
end Mine.C
end
section
namespace Mine.C
open PySem (Expr Stmt Str)
noncomputable def mIa:ISs:=iLa (cGa (.cons (.for [10] false (.range (.call .pick (.cons (.loc 2) (.cons (.const (.int (7))) .nil)))) wC) iUa))
theorem law_core {H:Heap} {s c n:Nat} {ns:List Int} (hc:H[c]? = some (.list (ns.map V.int))):W (aJ (aC tbl (n + 33)) mIa (rE s c none none none none none none none none) H) (Out fun v _=>v = .bool true) :=
 tGa (n:=n + 30) hc fun env H1 S=>oRa (n:=n + 32) S fun A imp H2 L _ _=>qBa (n:=n + 29) L fun H3 xs y10 y11 y12 y13 y14 L3 h6=>kPa (n:=n) (L3.fin h6)
end Mine.C
end
section
open PySem PySem.W PyProof.Rows PySem.Calls
namespace Mine
noncomputable def cA:Cls→Addr
 | .ty=>281 | .ob=>302 | .ifc=>330 | .nms=>174 | .tys=>366
noncomputable def fA:F→Addr
 | .pick=>377 | .ltext=>384 | .lgrouped=>389 | .lstructure=>394 | .lsignature=>399 | .lmade=>404 | .lconstant=>409 | .lnamed=>416 | .law=>421
 | .whole_text=>35 | .string_text=>49 | .set_text=>56 | .truth_text=>63 | .typed_constant=>77 | .constant_text=>84 | .basic_names=>91 | .is_plain=>98 | .free_name=>185 | .type_text=>192 | .structure_text=>197
 | .marked_name=>204 | .grouped=>211 | .is_variable=>218 | .record_text=>223 | .signature_text=>228 | .defines=>235 | .declared_text=>240 | .section_=>247 | .interface_names=>252 | .object_rows=>259 | .definition_text=>264
 | .initTy=>278 | .initOb=>299 | .initIfc=>320 | .initNms=>115 | .initTys=>348 | .new=>356 | .string=>363 | .enter=>122 | .is_taken=>143 | .module_name=>150 | .name_of=>157
noncomputable def iVa:List Cls:=[.ty,.ob,.ifc,.nms,.tys]
noncomputable def cI:Cls→Nat
 | .ty=>0 | .ob=>1 | .ifc=>2 | .nms=>3 | .tys=>4
theorem lQa (c:Cls):c ∈ iVa:=List.mem_of_getElem? (i:=cI c) (by cases c <;> rfl)
noncomputable def fI:F→Nat
 | .pick=>0 | .ltext=>1 | .lgrouped=>2 | .lstructure=>3 | .lsignature=>4 | .lmade=>5 | .lconstant=>6 | .lnamed=>7 | .law=>8
 | .whole_text=>9 | .string_text=>10 | .set_text=>11 | .truth_text=>12 | .typed_constant=>13 | .constant_text=>14 | .basic_names=>15 | .is_plain=>16 | .free_name=>17 | .type_text=>18 | .structure_text=>19
 | .marked_name=>20 | .grouped=>21 | .is_variable=>22 | .record_text=>23 | .signature_text=>24 | .defines=>25 | .declared_text=>26 | .section_=>27 | .interface_names=>28 | .object_rows=>29 | .definition_text=>30
 | .initTy=>31 | .initOb=>32 | .initIfc=>33 | .initTys=>34 | .new=>35 | .string=>36 | .initNms=>37 | .enter=>38 | .is_taken=>39 | .module_name=>40 | .name_of=>41
theorem xP (f:F):f ∈ lR:=List.mem_of_getElem? (i:=fI f) (by cases f <;> rfl)
noncomputable def aL:List Addr:=[3,1,281,280,302,301,330,329,174,173,366,365,108,349] ++ lR.map fA ++ lR.map fun f=>fA f - 1
noncomputable def Kof (h:PySem.Heap):Frag:=aL.filterMap fun a=>(h.get? a).map fun o=>(a,o)
set_option tactic.hygienic true in
theorem yC {h:PySem.Heap} {a:Addr} {o:Obj}:∀ {as:List Addr},(as.filterMap fun a=>(h.get? a).map fun o=>(a,o)).lookup a = some o→h.get? a = some o
 | [],e=>by cases e
 | b :: r,e=>by
  rw [List.filterMap_cons] at e
  cases q:h.get? b with
  | none=>rw [q] at e; exact yC e
  | some x =>
   rw [q] at e
   change List.lookup a ((b,x) :: _) = _ at e
   rw [List.lookup_cons] at e
   split at e
   ·rename_i w
    cases e
    exact (beq_iff_eq.mp w) ▸ q
   ·exact yC e
theorem oEa (h:PySem.Heap):(Kof h).In h:=fun _ _ e=>yC e
noncomputable def vG (K:Frag):Bool :=
 (iVa.all fun c=>(List.range 38).all fun n=>kOk K (cA c) (cX n)) &&
 ((fnT.all fun p=>nsIn K mainGlobals p.1 == some (some (.ref (fA p.2)))) &&
 ((lR.all fun f=>keepIn K (.ref (fA f)) && isFn K (.ref (fA f))) &&
 ((qP.all fun p=>nsIn K mainGlobals p.1 == some (some (.ref (cA p.2.1))) && (keepIn K (.ref (cA p.2.1)) && (makesIn K (cA p.2.1) && findIn K (.ref (cA p.2.1)) "__init__" == some (some (.ref (fA p.2.2)))))) &&
 ((qF.all fun p=>plainGet K (cA p.2.2) p.1 && findIn K (.ref (cA p.2.2)) p.1 == some (some (.ref (fA p.2.1)))) &&
 ((pJ.all fun p=>nsIn K mainGlobals p.1 == some none) &&
 (nsIn K mainGlobals (PySem.Str.ofString "range") == some none && nsIn K mainGlobals (PySem.Str.ofString "reversed") == some none))))))
theorem GOk.of {D:Wd} (hc:D.ca = cA) (hf:D.fa = fA) (h:vG D.K = true):GOk D:=by
 unfold vG at h
 obtain ⟨h1,h⟩:=Bool.and_eq_true_iff.mp h
 obtain ⟨h2,h⟩:=Bool.and_eq_true_iff.mp h
 obtain ⟨h3,h⟩:=Bool.and_eq_true_iff.mp h
 obtain ⟨h4,h⟩:=Bool.and_eq_true_iff.mp h
 obtain ⟨h5,h⟩:=Bool.and_eq_true_iff.mp h
 obtain ⟨h6,h⟩:=Bool.and_eq_true_iff.mp h
 obtain ⟨h7,h8⟩:=Bool.and_eq_true_iff.mp h
 have k3:=fun f=>Bool.and_eq_true_iff.mp (List.all_eq_true.mp h3 f (xP f))
 refine ⟨⟨fun c n hn=>?_⟩,fun p hp=>?_,fun f=>?_,fun f=>?_,fun p hp=>?_,fun p hp=>?_,fun p hp=>beq_iff_eq.mp (List.all_eq_true.mp h6 p hp),beq_iff_eq.mp h7,beq_iff_eq.mp h8⟩
 ·rw [hc]; exact List.all_eq_true.mp (List.all_eq_true.mp h1 c (lQa c)) n (List.mem_range.mpr hn)
 ·rw [hf]; exact beq_iff_eq.mp (List.all_eq_true.mp h2 p hp)
 ·rw [hf]; exact (k3 f).1
 ·rw [hf]; exact (k3 f).2
 ·obtain ⟨a,b⟩:=Bool.and_eq_true_iff.mp (List.all_eq_true.mp h4 p hp)
  obtain ⟨b,d⟩:=Bool.and_eq_true_iff.mp b
  obtain ⟨d,e⟩:=Bool.and_eq_true_iff.mp d
  rw [hc,hf]
  exact ⟨beq_iff_eq.mp a,b,d,beq_iff_eq.mp e⟩
 ·obtain ⟨a,b⟩:=Bool.and_eq_true_iff.mp (List.all_eq_true.mp h5 p hp)
  rw [hc,hf]
  exact ⟨a,beq_iff_eq.mp b⟩
noncomputable def zZ (s:Stmt):Arguments:=(fdOf s).a
noncomputable def dvF (f:F):Value:=match Nat.beq f.ctorIdx 36,Nat.beq f.ctorIdx 34 with
 | true,_=>.ref 349
 | false,true=>.ref 108
 | false,false=>.none
noncomputable def zG (d:Data):Option {f:FuncData // d = .func f}:=if h:d.ctorIdx = 7 then Data.func.elim (motive:=fun d=>Option {f:FuncData // d = .func f}) d h fun f=>some ⟨f,rfl⟩ else none
noncomputable def gCa (d:Data):Option {q:Array Value × Nat // d = .seq q.1 q.2}:=if h:d.ctorIdx = 2 then Data.seq.elim (motive:=fun d=>Option {q:Array Value × Nat // d = .seq q.1 q.2}) d h fun a b=>some ⟨(a,b),rfl⟩ else none
noncomputable def gMa (v:Value):Option {q:PySem.Str × Tok // v = .str q.1 q.2}:=if h:v.ctorIdx = 6 then Value.str.elim (motive:=fun v=>Option {q:PySem.Str × Tok // v = .str q.1 q.2}) v h fun a b=>some ⟨(a,b),rfl⟩ else none
noncomputable def wTa (d:FuncBody):Option {b:List Stmt // d = .stmts b}:=match d with
 | .stmts b=>some ⟨b,rfl⟩
 | _=>none
noncomputable def yZ (K:Frag) (a:Addr):Option (Arguments × List Stmt × Scope × List (PySem.Str × Addr) × Value × Value × Addr × Addr):=(K.lookup a).bind fun o=>(zG o.data).bind fun f=>let fd:=f.1; (wTa fd.body).map fun b =>
 (fd.params,b.1,fd.scope,fd.closure,fd.defaults,fd.kwdefaults,fd.globals,fd.builtins)
noncomputable def bTa (f:F):Option (Arguments × List Stmt × Scope × List (PySem.Str × Addr) × Value × Value × Addr × Addr) :=
 some (zZ (rM f),(src f).body,(src f).scope,[],dvF f,.none,mainGlobals,builtinsNs)
noncomputable def aOa (K:Frag) (a:Addr):Bool:=match (K.lookup a).bind fun o=>zG o.data |>.map (·.1) with
 | some fd=>codeIn K fd.code fd.qualname
 | none=>false
noncomputable def cXa (l:List Value):Option (Value × Value):=match l with | [a,b]=>some (a,b) | _=>none
noncomputable def oN (K:Frag) (a:Addr) (p:Value→Value→Bool):Bool:=match (K.lookup a).bind fun o=>(gCa o.data).bind fun q=>cXa q.1.1.toList with
 | some (a,b)=>p a b
 | none=>false
noncomputable def qM (v:Value):Bool:=match gMa v with
 | some q=>q.1.1 == PySem.Str.ofString ""
 | none=>false
noncomputable def restOk (K:Frag):Bool:=(lR.all fun f=>aOa K (fA f)) && (oN K 108 (fun _ _=>true) && oN K 349 fun a b=>qM a && qM b)
set_option tactic.hygienic true in
theorem dGa {K:Frag} {a:Addr} {p:Value→Value→Bool} (h:oN K a p = true):∃ c d x y t n sl,K.lookup a = some ⟨c,d,.seq #[x,y] n,sl⟩∧p x y = true∧t = [x,y]:=by
 unfold oN at h
 cases q:(K.lookup a).bind fun o=>(gCa o.data).bind fun q=>cXa q.1.1.toList with
 | none=>rw [q] at h; cases h
 | some r =>
  obtain ⟨x,y⟩:=r
  rw [q] at h
  obtain ⟨⟨c,d,da,sl⟩,q1,q2⟩:=Option.bind_eq_some_iff.mp q
  obtain ⟨⟨⟨⟨l⟩,n⟩,e⟩,_,q4⟩:=Option.bind_eq_some_iff.mp q2
  clear q2 q; cases e
  cases l with
  | nil=>cases q4
  | cons a l=>cases l with
   | nil=>cases q4
   | cons b l=>cases l with
    | cons _ _=>cases q4
    | nil=>cases q4; exact ⟨_,_,_,_,_,_,_,q1,h,rfl⟩
theorem gLa {v:Value} (h:qM v = true):∃ t,v = .str (PySem.Str.ofString "") t:=by
 unfold qM at h
 cases q:gMa v with
 | none=>rw [q] at h; cases h
 | some r =>
  obtain ⟨⟨s,t⟩,rfl⟩:=r
  rw [q] at h
  exact ⟨t,congrArg (fun s=>Value.str s t) (beq_iff_eq.mp h)⟩
structure wY (K:Frag):Prop where
 all:vG K = true
 rest:restOk K = true
 fns:lR.map (fun f=>yZ K (fA f)) = lR.map bTa
end Mine
end
section
open PySem PySem.W PyProof.Rows PySem.Calls
namespace Mine
noncomputable abbrev fnA (f:F) (name qual:PySem.Str) (doc pm:Value) (an:Option Addr) (cdv ct:Value):FuncData:=fnX name qual (zZ (rM f)) (src f).body (src f).scope [] (dvF f) .none doc pm an cdv ct
theorem un0 {α:Type} {l:List α} (h:l.length = 0):l = []:=List.length_eq_zero_iff.mp h
theorem unS {α:Type} {l:List α} {n:Nat} (h:l.length = n + 1):∃ a r,l = a :: r∧r.length = n:=by
 cases l with
 | nil=>cases h
 | cons a r=>exact ⟨a,r,rfl,Nat.succ.inj h⟩
theorem un1 {α:Type} {l:List α} (h:l.length = 1):∃ a,l = [a]:=let ⟨a,_,e,k⟩:=unS h; ⟨a,by rw [e,un0 k]⟩
theorem un2 {α:Type} {l:List α} (h:l.length = 2):∃ a b,l = [a,b]:=let ⟨a,_,e,k⟩:=unS h; let ⟨b,d⟩:=un1 k; ⟨a,b,by rw [e,d]⟩
theorem un3 {α:Type} {l:List α} (h:l.length = 3):∃ a b c,l = [a,b,c]:=let ⟨a,_,e,k⟩:=unS h; let ⟨b,c,d⟩:=un2 k; ⟨a,b,c,by rw [e,d]⟩
theorem un4 {α:Type} {l:List α} (h:l.length = 4):∃ a b c d,l = [a,b,c,d]:=let ⟨a,_,e,k⟩:=unS h; let ⟨b,c,x,d⟩:=un3 k; ⟨a,b,c,x,by rw [e,d]⟩
theorem un5 {α:Type} {l:List α} (h:l.length = 5):∃ a b c d e,l = [a,b,c,d,e]:=let ⟨a,_,e,k⟩:=unS h; let ⟨b,c,x,y,d⟩:=un4 k; ⟨a,b,c,x,y,by rw [e,d]⟩
noncomputable abbrev BP (f:F) (name qual:PySem.Str) (doc pm:Value) (an:Option Addr) (cdv ct:Value) (rvs:List Value):Prop:=bindArgs (fnA f name qual doc pm an cdv ct) ⟨rvs,[]⟩ = pure ((src f).params.zip rvs)
section
variable {α:Type} {P:List α→Prop} {l:List α}
theorem on0 (h:l.length = 0) (k:P []):P l:=by rw [un0 h]; exact k
theorem on1 (h:l.length = 1) (k:∀ a,P [a]):P l:=let ⟨_,e⟩:=un1 h; e ▸ k _
theorem on2 (h:l.length = 2) (k:∀ a b,P [a,b]):P l:=let ⟨_,_,e⟩:=un2 h; e ▸ k _ _
theorem on3 (h:l.length = 3) (k:∀ a b c,P [a,b,c]):P l:=let ⟨_,_,_,e⟩:=un3 h; e ▸ k _ _ _
theorem on4 (h:l.length = 4) (k:∀ a b c d,P [a,b,c,d]):P l:=let ⟨_,_,_,_,e⟩:=un4 h; e ▸ k _ _ _ _
theorem on5 (h:l.length = 5) (k:∀ a b c d e,P [a,b,c,d,e]):P l:=let ⟨_,_,_,_,_,e⟩:=un5 h; e ▸ k _ _ _ _ _
end
theorem sAa (f:F) (h1:f ≠ .new) (h2:f ≠ .initNms) {name qual:PySem.Str} {doc pm:Value} {an:Option Addr} {cdv ct:Value} {rvs:List Value} (hl:rvs.length = eZ f):BP f name qual doc pm an cdv ct rvs:=by
 cases f <;> first
  | exact absurd rfl h1
  | exact absurd rfl h2
  | (refine on2 (P:=BP _ name qual doc pm an cdv ct) hl ?_; intros; rfl)
  | (refine on1 (P:=BP _ name qual doc pm an cdv ct) hl ?_; intros; rfl)
  | (refine on3 (P:=BP _ name qual doc pm an cdv ct) hl ?_; intros; rfl)
  | (refine on0 (P:=BP _ name qual doc pm an cdv ct) hl ?_; intros; rfl)
  | (refine on4 (P:=BP _ name qual doc pm an cdv ct) hl ?_; intros; rfl)
  | (refine on5 (P:=BP _ name qual doc pm an cdv ct) hl ?_; intros; rfl)
section
variable {K:Frag} {s:Shared} {name qual:PySem.Str} {doc pm:Value} {an:Option Addr} {cdv ct:Value} {rvs:List Value}
theorem vGa (X:K.In s.heap) (h:oN K 108 (fun _ _=>true) = true) (hl:rvs.length = 4):BindsTo s (fnA .initNms name qual doc pm an cdv ct) ⟨rvs,[]⟩ ((src .initNms).params.zip rvs):=by
 obtain ⟨a,b,c,d,rfl⟩:=un4 hl
 obtain ⟨_,_,x,y,_,_,_,e,_⟩:=dGa h
 exact binds_K X rfl e rfl rfl rfl
theorem lEa (X:K.In s.heap) (h:oN K 349 (fun a b=>qM a && qM b) = true) (hl:rvs.length ≤ 5) (hl':5 ≤ rvs.length + 2) :
  ∃ rds,(∀ ρ,VRs ρ ((dZ .new).drop (2 - (5 - rvs.length))) rds)∧BindsTo s (fnA .new name qual doc pm an cdv ct) ⟨rvs,[]⟩ ((src .new).params.zip (rvs ++ rds)):=by
 obtain ⟨_,_,x,y,_,_,_,e,p,_⟩:=dGa h
 obtain ⟨p,q⟩:=Bool.and_eq_true_iff.mp p
 obtain ⟨t,rfl⟩:=gLa p
 clear p; obtain ⟨u,rfl⟩:=gLa q
 have:rvs.length = 3 ∨ rvs.length = 4 ∨ rvs.length = 5:=by exact d5 _ (Nat.lt_succ_of_le hl) hl'
 clear p q hl' hl; rcases this with h | h | h
 ·obtain ⟨a,b,c,rfl⟩:=un3 h
  exact ⟨_,fun ρ=>.cons (.str _ t) (.cons (.str _ u) .nil),binds_K X rfl e rfl rfl rfl⟩
 ·obtain ⟨a,b,c,d,rfl⟩:=un4 h
  exact ⟨_,fun ρ=>.cons (.str _ u) .nil,binds_K X rfl e rfl rfl rfl⟩
 ·obtain ⟨a,b,c,d,f,rfl⟩:=un5 h
  exact ⟨[],fun ρ=>.nil,binds_K X rfl e rfl rfl rfl⟩
end
theorem mQa (f:F) (h:f ≠ .new):dZ f = []:=by cases f <;> first | rfl | exact absurd rfl h
theorem qGa (f:F):f = .new ∨ f = .initNms ∨ (f ≠ .new∧f ≠ .initNms):=by
 cases f <;> first
  | exact .inl rfl
  | exact .inr (.inl rfl)
  | exact .inr (.inr (And.intro (fun q=>nomatch q) (fun q=>nomatch q)))
theorem wFa {K:Frag} (h:restOk K = true) (f:F) {name qual:PySem.Str} {doc pm:Value} {an:Option Addr} {cdv ct:Value} {s:Shared} {ρ:Rho} {vs:List V} {rvs:List Value} (X:K.In s.heap) (R:VRs ρ vs rvs) (l1:vs.length ≤ eZ f) (l2:eZ f ≤ vs.length + (dZ f).length) :
  ∃ rds,VRs ρ ((dZ f).drop ((dZ f).length - (eZ f - vs.length))) rds∧BindsTo s (fnA f name qual doc pm an cdv ct) ⟨rvs,[]⟩ ((src f).params.zip (rvs ++ rds)):=by
 obtain ⟨_,r⟩:=Bool.and_eq_true_iff.mp h
 obtain ⟨r2,r3⟩:=Bool.and_eq_true_iff.mp r
 have hr:=R.length
 rw [← hr] at l1 l2 ⊢
 have plain:dZ f = []→BindsTo s (fnA f name qual doc pm an cdv ct) ⟨rvs,[]⟩ ((src f).params.zip rvs)→∃ rds,VRs ρ ((dZ f).drop ((dZ f).length - (eZ f - rvs.length))) rds∧BindsTo s (fnA f name qual doc pm an cdv ct) ⟨rvs,[]⟩ ((src f).params.zip (rvs ++ rds)):=fun e b =>
  ⟨[],by rw [e,List.drop_nil]; exact .nil,by rw [List.append_nil]; exact b⟩
 clear hr r R h; rcases qGa f with q | q | ⟨q1,q2⟩
 ·subst q
  obtain ⟨rds,a,b⟩:=lEa (name:=name) (qual:=qual) (doc:=doc) (pm:=pm) (an:=an) (cdv:=cdv) (ct:=ct) (rvs:=rvs) X r3 l1 l2
  exact ⟨rds,a ρ,b⟩
 ·clear r3; subst q
  exact plain rfl (vGa X r2 (Nat.le_antisymm l1 l2))
 ·have e:=mQa f q1
  rw [e] at l2
  exact plain e (.of_eq (sAa f q1 q2 (Nat.le_antisymm l1 l2)))
set_option tactic.hygienic true in
theorem tDa {K:Frag} {a:Addr} {g:Arguments × List Stmt × Scope × List (PySem.Str × Addr) × Value × Value × Addr × Addr} (h:yZ K a = some g) (hc:aOa K a = true) :
  ∃ oc od osl name qual doc pm an cdv ct,K.lookup a = some ⟨oc,od,.func { name,qualname:=qual,params:=g.1,body:=.stmts g.2.1,scope:=g.2.2.1,globals:=g.2.2.2.2.2.2.1,closure:=g.2.2.2.1,defaults:=g.2.2.2.2.1,kwdefaults:=g.2.2.2.2.2.1,doc,pyModule:=pm,annotations:=an,code:=cdv,closureTuple:=ct,builtins:=g.2.2.2.2.2.2.2 },osl⟩∧codeIn K cdv qual = true:=by
 unfold aOa at hc
 obtain ⟨o,q,h⟩:=Option.bind_eq_some_iff.mp h
 rw [q] at hc
 obtain ⟨⟨fd,e⟩,q1,h⟩:=Option.bind_eq_some_iff.mp h
 obtain ⟨⟨b,hb⟩,_,h⟩:=Option.map_eq_some_iff.mp h
 have hc:(match (zG o.data).map (·.1) with | some fd=>codeIn K fd.code fd.qualname | none=>false) = true:=hc
 rw [q1] at hc
 clear q1; subst h
 exact ⟨o.cls,o.dict,o.slots,fd.name,fd.qualname,fd.doc,fd.pyModule,fd.annotations,fd.code,fd.closureTuple,q.trans (congrArg (fun d=>some (Obj.mk o.cls o.dict d o.slots)) (e.trans (congrArg (fun x=>Data.func { fd with body:=x }) hb))),hc⟩
theorem defAt {D:Wd} (hf:D.fa = fA) (h:wY D.K) (f:F):Nonempty (qX D f):=by
 obtain ⟨oc,od,osl,name,qual,doc,pm,an,cdv,ct,q,hc⟩:=tDa (List.map_inj_left.mp h.fns f (xP f)) (List.all_eq_true.mp (Bool.and_eq_true_iff.mp h.rest).1 f (xP f))
 exact ⟨⟨name,qual,_,_,_,doc,pm,cdv,ct,oc,an,od,osl,hf ▸ q,hc,fun X R l1 l2=>wFa h.rest f X R l1 l2⟩⟩
end Mine
end
section
set_option tactic.hygienic true
open PySem PySem.W PyProof.Rows
set_option maxHeartbeats 0
namespace Mine
noncomputable def sOa:Stmt:=(PySem.Challenge.pw_pb0355_01.main.body[44]?).getD default
noncomputable def vw:Program:={ PySem.Challenge.pw_pb0355_01 with main:={ PySem.Challenge.pw_pb0355_01.main with body:=[sOa] } }
noncomputable def loose:List PySem.Str:=[Str.ofString "_wall",Str.ofString "hex_digits",Str.ofString "whole_text",Str.ofString "is_printable",Str.ofString "string_text",Str.ofString "set_text",Str.ofString "truth_text",Str.ofString "system_value",Str.ofString "typed_constant",Str.ofString "constant_text",Str.ofString "basic_names",Str.ofString "is_plain",Str.ofString "Names",Str.ofString "free_name",Str.ofString "type_text",Str.ofString "structure_text",Str.ofString "marked_name",Str.ofString "grouped",Str.ofString "is_variable",Str.ofString "record_text",Str.ofString "signature_text",Str.ofString "defines",Str.ofString "declared_text",Str.ofString "section",Str.ofString "interface_names",Str.ofString "object_rows",Str.ofString "definition_text",Str.ofString "Type",Str.ofString "Obj",Str.ofString "Interface",Str.ofString "Types",Str.ofString "_law_pick",Str.ofString "_law_text",Str.ofString "_law_grouped",Str.ofString "_law_structure",Str.ofString "_law_signature",Str.ofString "_law_made",Str.ofString "_law_constant",Str.ofString "_law_named"]
noncomputable def rH (ok:Thread→Bool) (st:SharedT→Thread→Option (SharedT × Thread)):Nat→SharedT→Thread→Option SharedT
 | 0,_,_=>none
 | n + 1,s,t=>match through t with
  | true=>some s
  | false=>match ok t with
   | false=>none
   | true=>match st s t with
    | some (s',t')=>rH ok st n s' t'
    | none=>none
noncomputable def mkT:List Obj→Nat→BT→BT
 | [],_,t=>t
 | o :: r,n,t=>mkT r (n + 1) (t.ins n o)
noncomputable def s0 (w:World) (os:OsState):SharedT:=⟨mkT (boot_heap w.params).objs.toList 0 .nil,(boot_heap w.params).objs.size,(boot_heap w.params).life,#[],boot_drawn,boot_toks,os⟩
noncomputable abbrev pg:Program:=PySem.Challenge.pw_pb0355_01
noncomputable def looksAt (h0:PySem.Heap) (s:Shared):Bool:=staticsOk (importedModules pg.main.body) h0 s.heap && namesBound pg s.heap && gensDone s && laidKept h0 s.heap
noncomputable def Obs:Type:=Bool × Bool × List (Option (Arguments × List Stmt × Scope × List (PySem.Str × Addr) × Value × Value × Addr × Addr))
noncomputable def tW (h:PySem.Heap):Obs:=(vG (Kof h),restOk (Kof h),lR.map fun f=>yZ (Kof h) (fA f))
noncomputable def tH:Obs:=(true,true,lR.map bTa)
theorem left:∀ w os,(rH (Fast.tw6613529449190102663 (boot_heap w.params).objs.size ((boot_heap w.params).nsMap mainGlobals "__annotations__")) (Fast.tw10156331382660048174 (Fast.tw11892475500146522536 Fast.tw14364793385576792824) pg w) 5308 (s0 w os) (topStub pg)).map (fun s=>(looksAt (boot_heap w.params) s.abs,Fast.tw4187177175401517315 vw loose (importedModules pg.main.body) (fun s=>xlAt vw [] s && recOk [] s) true s.abs,tW s.abs.heap)) = some (true,openGood vw loose,tH):=by
 intro w os; kernel_rfl
end Mine
end
section
set_option tactic.hygienic true
open PySem PySem.W PyProof.Rows PySem.Calls
set_option maxHeartbeats 0
namespace Mine
theorem hPa {tb:String→Option Builtin} {p:Program} {w:World} {n₀:Nat} {ann:Option Value}:∀ {n:Nat} {s s':SharedT} {t:Thread},rH (stepOk n₀ ann) (PySem.W.stepT (denote tb) p w) n s t = some s'→topRun tb p w n₀ ann n s.abs t = some s'.abs
 | 0,_,_,_,h=>by cases h
 | n + 1,s,s',t,h=>by
  change (match through t with | true=>some s | false=>match stepOk n₀ ann t with | false=>none | true=>match PySem.W.stepT (denote tb) p w s t with | some (s',t')=>rH (stepOk n₀ ann) (PySem.W.stepT (denote tb) p w) n s' t' | none=>none) = some s' at h
  unfold topRun
  cases ht:through t with
  | true=>rw [ht] at h; exact congrArg some (congrArg SharedT.abs (Option.some.inj h))
  | false =>
   rw [ht] at h
   cases hk:stepOk n₀ ann t with
   | false=>rw [hk] at h; cases h
   | true =>
    rw [hk] at h
    cases hs:PySem.W.stepT (denote tb) p w s t with
    | none=>rw [hs] at h; cases h
    | some r =>
     obtain ⟨s2,t2⟩:=r
     rw [hs] at h
     dsimp only
     rw [stepT_spec hs]
     exact hPa h
theorem kIa {p q:Program} {loose:List PySem.Str} {Xt:Shared→Bool} {α:Type} {Yf:Shared→α} {Ya:World→α} {N:Nat} {B:Params→PySem.Heap} {d:Drawn} {k:Nat} {S:World→OsState→SharedT}
 (hb:∀ w:World,(fencedOpening treeTable p w N).map (fun s=>(s.heap,s.gens,s.drawn,s.toks)) = some (B w.params,Array.mk [],d,k))
 (h0:∀ w:World,((B w.params).isNs mainGlobals && (Array.mk ([]:List GenState)).size == 0) = true)
 (hs:∀ (w:World) (os:OsState),(S w os).abs = ⟨B w.params,Array.mk [],d,k,os⟩)
 (hl:∀ (w:World) (os:OsState),(rH (stepOk (B w.params).objs.size ((B w.params).nsMap mainGlobals "__annotations__")) (PySem.W.stepT (denote treeTable) p w) N (S w os) (topStub p)).map (fun s=>(staticsOk (importedModules p.main.body) (B w.params) s.abs.heap && namesBound p s.abs.heap && gensDone s.abs && laidKept (B w.params) s.abs.heap,openSeen q loose (importedModules p.main.body) Xt true s.abs,Yf s.abs)) = some (true,openGood q loose,Ya w)):LeftO p q loose Xt Yf Ya N:=fun w=>by
 obtain ⟨⟨h,gs,d,k,os⟩,e,e'⟩:=Option.map_eq_some_iff.mp (hb w)
 cases e'
 obtain ⟨s,l1,l2⟩:=Option.map_eq_some_iff.mp (hl w os)
 have r:=hPa l1
 rw [hs] at r
 have t:topFrom treeTable p w N ⟨B w.params,Array.mk [],d,k,os⟩ = some s.abs:=by
  unfold topFrom
  dsimp only
  rw [h0 w,r]
  have q1:=congrArg (fun x=>x.1) l2
  dsimp only at q1
  rw [Option.bind_some]
  rw [q1]
 unfold openEnds
 rw [e,Option.bind_some,t]
 exact congrArg some (congrArg (fun x=>x.2) l2)
noncomputable abbrev XtL (s:Shared):Bool:=xlAt vw [] s && recOk [] s
theorem kRa (w:World) (os:OsState):(s0 w os).abs = ⟨boot_heap w.params,Array.mk [],boot_drawn,boot_toks,os⟩:=by kernel_rfl
theorem pRa (w:World):((boot_heap w.params).isNs mainGlobals && (Array.mk ([]:List GenState)).size == 0) = true:=by kernel_rfl
theorem jRa:∀ w:World,(fencedOpening treeTable pg w 5308).map (fun s=>(s.heap,s.gens,s.drawn,s.toks)) = some (boot_heap w.params,Array.mk [],boot_drawn,boot_toks):=boot_open (p:=pg) (N:=5308) rfl rfl (fun _=>rfl)
theorem qCa:LeftO pg vw loose XtL (fun s=>tW s.heap) (fun _=>tH) 5308:=by
 have h:=left
 rw [← Fast.te6613529449190102663,← Fast.te10156331382660048174,← Fast.te11892475500146522536,← Fast.te14364793385576792824,← Fast.te4187177175401517315] at h
 exact kIa (S:=s0) jRa pRa kRa h
theorem vCa (s:Shared) (e:tW s.heap = tH):∃ K:Frag,K.In s.heap∧wY K:=⟨Kof s.heap,oEa _,congrArg (fun x=>x.1) e,congrArg (fun x=>x.2.1) e,congrArg (fun x=>x.2.2) e⟩
end Mine
end
section
set_option tactic.hygienic true
open PySem PySem.W PyProof.Rows PySem.Calls
set_option maxHeartbeats 0
namespace Mine
noncomputable abbrev gIa (_:World) (h:PySem.Heap):Prop:=∃ K:Frag,K.In h∧wY K
theorem xCa:sreFenced pg.main = true:=by rw [Fast.te11788848310118352699]; kernel_rfl
theorem qWa:((moduleNames pg.main.body).isEmpty || lookedIntoSs (moduleNames pg.main.body) pg.main.body) = true:=by kernel_rfl
theorem qFa:(namesResolve pg && pg.boundNames.all (fun n=>!worldNames.contains n)) = true:=by rw [Fast.te8377067652309620493]; kernel_rfl
theorem tUa:readsOut pg pg.main.body "vars" = false:=by rw [Fast.te13343964577679436407]; kernel_rfl
theorem rTa:readsOut pg pg.main.body "dir" = false:=by rw [Fast.te13343964577679436407]; kernel_rfl
theorem rYa:readsOut pg pg.main.body "locals" = false:=by rw [Fast.te13343964577679436407]; kernel_rfl
theorem wKa:noRoadLSs { strict:=!(importedModules pg.main.body).all cThrough.contains,foot:=none,bare:=(["vars","dir","locals"]:List PySem.Str).filter (readsOut pg pg.main.body) } pg.main.body = true:=by
 rw [List.filter_cons_of_neg (by rw [tUa]; exact Bool.false_ne_true),List.filter_cons_of_neg (by rw [rTa]; exact Bool.false_ne_true),List.filter_cons_of_neg (by rw [rYa]; exact Bool.false_ne_true),Fast.te8326940854005059898]
 kernel_rfl
theorem tCa:(namesMeet pg pg.main.body fun _ n=>attrL n) = true:=by rw [Fast.te17119622794617984870]; kernel_rfl
theorem tIa:looksOpen pg = true:=by
 unfold looksOpen
 rw [xCa,qWa,Bool.and_assoc _ (namesResolve pg),qFa,wKa,tCa]; rfl
theorem sRa:(OpenLaw.row PySem.Challenge.rw_pb0355_01).wellSaid = true:=by
 unfold OpenRow.wellSaid OpenRow.partSaid
 rw [show looksOpen (OpenLaw.row PySem.Challenge.rw_pb0355_01).prog = true from tIa]
 decide +kernel
noncomputable abbrev lw:OpenLaw:=PySem.Challenge.rw_pb0355_01
theorem eA:(decide (lw.foot ≤ (behindTheImports lw.prog).length) = true∧lw.footing.all footLine = true)∧noClassBlock lw.prog lw.footing = true:=⟨⟨by kernel_rfl,by kernel_rfl⟩,by kernel_rfl⟩
theorem eB:lw.most.all (fun n=>decide (63 ≤ n)) = true∧lw.bound.all (fun n=>decide (2 ^ 63 ≤ n)) = true:=⟨by kernel_rfl,by kernel_rfl⟩
theorem eC:noRoadLSs { strict:=true,foot:=some lw.bound',writes:=lw.writes,may:=lw.may } lw.footing = true:=by rw [Fast.te8326940854005059898]; kernel_rfl
theorem eD:defStands lw.about lw.above = true∧lw.namesIt = true:=⟨by kernel_rfl,by kernel_rfl⟩
theorem eE:(["type","isinstance","issubclass","getattr","hasattr"]:List PySem.Str).all (fun n=>lw.about != [n]) = true∧lw.bound'.all (fun n=>!builtinNamed n || lw.about == [n] || !lw.reads n) = true:=⟨by kernel_rfl,by rw [Fast.te6984425678791042302]; kernel_rfl⟩
theorem eF:(!lw.writes || (lw.prog.main.body.flatMap importedNames).all fun n=>!lw.reads n) = true∧(lw.prog.main.body.flatMap importedNames).all (fun n=>!lw.reads n || (drawsOf n lw.prog.main.body).all fun mn=>mn.2 != ("attrgetter":PySem.Str) && mn.2 != ("methodcaller":PySem.Str)) = true:=⟨by kernel_rfl,by kernel_rfl⟩
theorem eG:(namesMeet lw.prog lw.footing (fun sc n=>(!(["type","isinstance","issubclass","getattr","hasattr"]:List PySem.Str).contains n || sc.names.lookup n == some .globalImplicit) &&
  (lw.may != some n || sc.kind == .module || sc.names.lookup n == some .globalImplicit))) = true:=by rw [Fast.te17119622794617984870]; kernel_rfl
theorem eH:(lw.own.contains lw.name = true∧(lw.own.eraseDups.length == lw.own.length) = true)∧lw.own.all (fun n=>!builtinNamed n) = true:=⟨⟨by kernel_rfl,by kernel_rfl⟩,by kernel_rfl⟩
theorem eI:namesMeet lw.prog lw.above (fun _ n=>!lw.own.contains n) = true:=by rw [Fast.te17119622794617984870]; kernel_rfl
theorem eJ:(namesMeet lw.prog lw.footing fun sc n=>sc.kind == .module || sc.names.lookup n != some .globalExplicit) = true:=by rw [Fast.te17119622794617984870]; kernel_rfl
theorem lVa:lw.wellSaid = true:=by
 unfold OpenLaw.wellSaid
 rw [sRa,eA.1.1,eA.1.2,eA.2,eB.1,eB.2,eC,eD.1,eD.2,eE.1,eE.2,eF.1,eF.2,eG,eH.1.1,eH.1.2,eH.2,eI,eJ]
 rfl
theorem uEa:(chainsOk vw && opensWell PySem.Challenge.pw_pb0355_01 && (frees (OpenRow.toRowW (OpenLaw.row PySem.Challenge.rw_pb0355_01)) && (OpenRow.toRowW (OpenLaw.row PySem.Challenge.rw_pb0355_01)).within.isEmpty)) = true:=by decide +kernel
theorem rNa:PySem.Challenge.pw_pb0355_01.bare:=⟨rfl,rfl,rfl,rfl,rfl,by decide +kernel⟩
theorem xLa:(OpenRow.toRowW (OpenLaw.row PySem.Challenge.rw_pb0355_01)).promised:=by
 w_witness2
end Mine
end
section
open PySem PySem.W PyProof.Rows PySem.Calls
namespace Mine
noncomputable def tlS:ISs→ISs
 | .cons _ r=>r
 | .nil=>.nil
theorem ePa:∃ pc ps p6 p0 p7 pp,(src .law).body = .Assign [.Name (PySem.Str.ofString "cells") pc] (.Subscript (.Name (PySem.Str.ofString "script") ps) (.Slice none (some (.Constant (.int 63) 0 p6)) none p0) p7) pp :: (src .law).body.tail:=⟨_,_,_,_,_,_,rfl⟩
noncomputable abbrev eOa:ISs:=tlS (tbl .law).body
noncomputable def vV:Prop:=∀ ns:List Int,∃ env H',aJ (aC tbl 33) eOa ([none,some (V.ref 0)] ++ List.replicate 24 none) [.list (ns.map V.int)] = some ((.ret (.bool true),env),H')
theorem sDa:iV ((src .law).body.tail.map (trB (scF .law))) = eOa:=by
 obtain ⟨_,_,_,_,_,_,e⟩:=ePa
 have h2:(tab .law).body = iV ((src .law).body.map (trB (scF .law))):=rfl
 show _ = tlS (tbl .law).body
 rw [← gOa]
 rw [e,List.map_cons] at h2
 rw [h2]
 rfl
theorem sVa {ρ:Rho} {vs:List Value} {ns:List Int} (h:IntsAre vs ns):VRs ρ (ns.map V.int) vs:=by
 induction h with
 | nil=>exact .nil
 | cons n t _ ih=>exact .cons (.int n t) ih
theorem xJa {D:Wd} {c:Act D} {A:Around} {m:PySem.Str→Option Value} {s:Shared} {ρ:Rho} {H:Heap} {X:List (Addr × Obj)} {E:Value→Shared→Prop} {Q:Value→Shared→Prop} {value up:Expr} {p:Pos} {t:Tok} {a:Addr} {vs:List Value} {ns:List Int}
  (S:St c m s.heap ρ H X) (hL:s.heap.IsList a vs.toArray) (hI:IntsAre vs ns) (hn:ns.length ≤ 63) (k:cG c m s ρ X (.ref H.length) (H ++ [.list (ns.map V.int)]) Q) :
  wpAny (model D.prog D.w) A (subscriptTail value (.Slice none (some up) none p) (.ref a) (.ref s.heap.objs.size)) Q E { s with heap:=s.heap.push { cls:=.type "slice",data:=.fields #[.none,.int 63 t,.none] } }:=by
 obtain ⟨ops,hs⟩:=tK (slice:=.Slice none (some up) none p) (o:=.ref a) (i:=.ref s.heap.objs.size)
 refine tail_any (hL.push _).typeIs slot_list_getitem.lookup (wpAny_getItem_list_slice (hL.push _) (Heap.IsSliceOf.new ..) .none (.int 63 t) .none (by simp) ?_ (by rw [List.size_toArray,hI.length]; exact Nat.le_trans hn (by decide))) hs
 have hI2:IntsAre (slicePick vs.toArray none (some 63) none).toList (ns.take 63):=slice_ints_uptoW hI (by decide)
 rw [List.take_of_length_le hn] at hI2
 rw [← Array.toArray_toList (xs:=slicePick vs.toArray none (some 63) none)]
 generalize (slicePick vs.toArray none (some 63) none).toList = us at hI2
 exact aNa (s:={ s with heap:=s.heap.push { cls:=.type "slice",data:=.fields #[.none,.int 63 t,.none] } }) (S.keeps fun b o e=>Heap.get?_push_of_some _ e) (sVa hI2) (by rw [List.length_map]; exact Nat.le_trans hn (by decide)) k
section
variable {D:Wd} {h0:Real} {fa a:Addr} {cd:Value} {vs:List Value} {ns:List Int} {h₁:Real} {s:Shared} {cells:List (Addr × Obj)}
noncomputable abbrev jL (h0:Real) (fa:Addr) (cd:Value):PySem.Env:=envOfC (PySem.Str.ofString "law") (src .law).scope h0.objs.size fa cd
noncomputable abbrev rR (a:Addr):List (PySem.Str × Value):=(src .law).params.zip [Value.ref a]
theorem jMa (hG:GOk D) (hd:∀ f,qX D f) (hcore:vV) (KX:D.K.In h0) (T:Top D.p D.loose D.mean D.mg D.mb h0) (K0:Below callerA h0 [] h0) (hL:h0.IsList a vs.toArray) (hI:IntsAre vs ns) (hn:ns.length ≤ 63)
  (F:Fr h0 h0.objs.size s.heap (bindL (jL h0 fa cd).kindOf (rR a) fun _=>none)) (N:News h0 h0.objs.size s.heap cells)
  (Y:CellsAre (bindC (jL h0 fa cd).kindOf (rR a) fun _=>none) (cellsFrom (h0.objs.size + 1) (src .law).scope.names []) cells) {Q:Flow→Shared→Prop} {E:Value→Shared→Prop}
  (k:∀ h' tk m,Fr h0 h0.objs.size h' m→Q (.ret (.bool true)) { s with heap:=h',toks:=tk }) :
  wpAny (model D.prog D.w) (callerA.deeper (jL h0 fa cd)) (execs (src .law).body (jL h0 fa cd)) Q E s:=by
 have st:=stat .law
 have hlk:∀ {x},(src .law).scope.names.lookup x = at_ x (src .law).scope.names:=lookup_at
 obtain ⟨o,rfl,hod⟩:∃ o,cells = [(h0.objs.size + 1,o)]∧o.data = .cell (bindC (jL h0 fa cd).kindOf (rR a) (fun _=>none) (PySem.Str.ofString "names")):=Y.one
 let c:Act D:={ A₀:=callerA,base:=h0,outer:=[],h₀:=h0,L:=h0.objs.size,fenv:=jL h0 fa cd,B:=K0,KX:=KX,T:=T,hf:=rfl,hk:=st.kind }
 have hone:∀ x,at_ x (src .law).scope.names = some .cell→x = PySem.Str.ofString "names":=fun x hx=>by
  rcases cVa st.nd st.one with h | ⟨y,_,h,_⟩
  ·exact absurd hx ((h 0).2 x)
  ·exact (h x hx).trans (h (PySem.Str.ofString "names") (by rfl)).symm
 let pk:PK c (scF .law) (jL h0 fa cd):=⟨rfl,rfl,st.kind,fun x hm=>hlk.trans (iI hm),fun x kd hm=>st.dbg _ (fQ hm),Nat.le_refl _,st.snd,fun x hm=>hlk.trans hm,fun _ x hm=>⟨hlk.trans hm,h0.objs.size + 1,by rw [hone x hm]; rfl⟩,fun _=>rfl⟩
 let z:Z D 33 (scF .law):=⟨c,callerA.deeper (jL h0 fa cd),s,jL h0 fa cd,⟨rfl,rfl,show callerA.depth + 1 + 3 * 33 + 3 < recursionLimit by decide,show callerA.units + 3 + 40 * 33 + 30 * 3 < cLine by decide⟩,pk,bindL (jL h0 fa cd).kindOf (rR a) fun _=>none,[(h0.objs.size + 1,o)],[(h0.objs.size + 1,o)],List.replicate 26 none⟩
 obtain ⟨n1,n2,n3⟩:=N _ (.head _)
 have oz:Ok z ⟨s,[]⟩ []:=by
  refine ⟨⟨F,rfl,fun i o e=>(nomatch e),List.nodup_nil,fun b hb=>(nomatch hb),fun x hx=>?_,List.nodup_cons.mpr ⟨List.not_mem_nil,List.nodup_nil⟩⟩,rfl,fun p hp=>hp,fun x i hl v hv=>?_,fun _=>Nat.le_of_ble_eq_true rfl⟩
  ·rw [List.mem_singleton.mp hx]
   exact ⟨n1,n2,n3,fun q=>nomatch q⟩
  ·rw [show z.env[i]? = (List.replicate 26 none)[i]? from rfl,List.getElem?_replicate] at hv
   split at hv <;> cases hv
 obtain ⟨pc,ps,p6,p0,p7,pp,e⟩:=ePa
 have hL1:s.heap.IsList a vs.toArray:=let ⟨ol,q1,q2⟩:=hL; ⟨ol,F.keep _ _ q1,q2⟩
 rw [e]
 refine wpAny_execs_cons (wpAny_Assign_Name (Subscript_ (wpAny_Name (wW oz.st st.kind (.loc rfl rfl (rv:=.ref a) rfl) ?_) rfl)) (vO rfl _ _ _))
 refine wpAny_Slice (wpAny_evalPart_none (wpAny_evalPart_some (wpAny_Constant_int (wpAny_evalPart_none ?_))))
 refine xJa (s:={ s with toks:=s.toks + 1 }) oz.st hL1 hI hn fun h' tk' ρ' rv S1 g hv=>?_
 refine (oz.to (tk':=tk') S1 g).store (i:=1) rfl hv fun h2 tk2 m2 o2 _=>?_
 obtain ⟨env,H',ev⟩:=hcore ns
 rw [← sDa,← gOa] at ev
 refine uZ (Γ:=scF .law) ⟨hG,dUa hG hd 33⟩ (src .law).body.tail (z.at m2 (bB 1 (.ref 0) z.env)) _ _ H' (.ret (.bool true),env) (X:=[]) rfl ⟨fun x hm=>?_,fun x y hx hy=>?_⟩ o2 ev _ _ fun σ2 m3 fl2 C2 S2 r2 g2 hf=>?_
 ·rw [hone x hm]
  exact ⟨h0.objs.size + 1,o,_,rfl,rfl,hod⟩
 ·rw [hone x hx,hone y hy]
 ·cases hf with
  | ret hr =>
   cases hr
   have r2:σ2.s = { s with heap:=σ2.s.heap,toks:=σ2.s.toks }:=r2
   rw [r2]
   exact k _ _ _ S2.fr
end
end Mine
end
section
set_option tactic.hygienic true
open PySem PySem.W PyProof.Rows PySem.Calls
set_option maxHeartbeats 0
namespace Mine
noncomputable def lOa (s:Stmt):Pos:=(fdOf s).p
noncomputable def gFa:DefRec:=⟨PySem.Str.ofString "law",zZ (rM .law),(src .law).body,(src .law).scope,lOa (rM .law)⟩
theorem oIa:defOf vw (PySem.Str.ofString "law") = some (gFa,[]):=by kernel_rfl
theorem uWa (hcore:vV):WalkO vw loose (XL vw []) gIa (OpenRow.toRowW (OpenLaw.row PySem.Challenge.rw_pb0355_01)) gFa [] fun f vs=>PySem.call f vs:=by
 intro w s₀ s₁ mg mb G Y fa o pm cd doc dV kV ho hd hcd hD hmg hg args vals as hpre hlay hrd hwl hlo
 refine Ground.open G ?_
 intro T B D TE TW
 have K0:=below_caller (Top.heap T)
 clear G B D TE TW hmg
 wrow_args hpre hlay hrd hwl hlo
 rename_i ns _ _ _ _ _ _ a vs _ hL _ _ _ hI _ hc _
 refine enter_call ?_
 refine codeAny_mono ?_ (fun _ _ g=>GoodW.toG g)
 have he:=Dflts.none hD rfl; subst he
 have he:=Dflts.noKw hD; subst he
 obtain ⟨K,KX,ok⟩:=Y
 let DD:Wd:=⟨PySem.Challenge.pw_pb0355_01,w,K,vw,looseW vw loose,ExcName.means s₀.heap,mg,mb,cA,fA⟩
 have hG:GOk DD:=GOk.of rfl rfl ok.all
 have hdd:∀ f,qX DD f:=fun f=>Classical.choice (defAt rfl ok f)
 have st:=stat .law
 refine call_cellsN (binds:=rR a) (by decide) ho (fd_plain hd) T.nolimit hcd rfl (fun x hx=>?_) (by decide) (fun h₁ tk cells F N Y=>?_) st.co st.gen st.kind
 ·rw [List.mem_singleton.mp (show x ∈ [(PySem.Str.ofString "script",Value.ref a)] from hx)]
  exact .inl rfl
 ·refine jMa (D:=DD) (s:=⟨h₁,s₁.gens,s₁.drawn,tk,s₁.os⟩) hG hdd hcore KX T K0 hL hI (by omega) F N Y fun h' tk' m F'=>?_
  exact goodW_bool F' hg (raisesW_false (by wrow_none_raised)) (postW_of (by wrow_shape) (by wtm_val) (by str_meet; first | done | w_fin))
theorem claimX (hcore:vV):PySem.Challenge.rw_pb0355_01.Holds:=by
 refine holds_law lVa fun said=>holds_open (q:=vw) (loose:=loose) (Xt:=XtL) (XP:=XL vw []) (Yf:=fun s=>tW s.heap) (Ya:=fun _=>tH) (YP:=gIa) (N:=5308) qCa (fun _ s e=>vCa s e)
  (fun _ _ _ y k=>let ⟨K,a,b⟩:=y; ⟨K,a.keeps k,b⟩) (fun s e=>xl_of s (Bool.and_eq_true_iff.mp e).1) XL.keeps oIa (by rfl) (by rfl) (fun s e=>recFacts_of (Bool.and_eq_true_iff.mp e).2) (by rfl) said uEa rNa xLa (uWa hcore)
end Mine
end
section
set_option tactic.hygienic true
namespace Mine
theorem lFa {m:Option ((Fl × Env) × Heap)} (h:C.W m (C.Out fun v _=>v = .bool true)):∃ env H',m = some ((.ret (.bool true),env),H'):=by
 obtain _ | ⟨⟨fl,env⟩,H'⟩:=m
 ·exact h.elim
 ·cases fl with
  | ret v=>exact ⟨env,H',by rw [show v = .bool true from h]⟩
  | next=>cases (show V.none = .bool true from h)
  | cont=>exact (h:False).elim
theorem core_ok:vV:=fun ns=>lFa (C.law_core (H:=[.list (ns.map V.int)]) (s:=0) (c:=0) (n:=0) (ns:=ns) rfl)
end Mine
end
theorem PySem.Challenge.cw_pb0355_01_holds : PySem.Challenge.rw_pb0355_01.Holds := by
  exact Mine.claimX Mine.core_ok
